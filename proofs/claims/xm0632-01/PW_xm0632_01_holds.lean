import PyProof.Rows.All
import Wide.All
import OpenK.AllK
import Wide.FinOn
import PySem.Challenge.RW_xm0632_01
open PySem PySem.W PyProof.Rows
set_option Elab.async false
set_option maxRecDepth 100000
set_option maxHeartbeats 8000000
namespace Mine
open_top hd for PySem.Challenge.rw_xm0632_01
/-- the lines of a text's top are laid off: open_top leaves them on -/
theorem topOff : True := by
  w_top off
  trivial
end Mine
/-! the words of the walk stand in k_with; these rules hand them over -/
local macro_rules | `(tactic| walk_at $s:str) => `(tactic| k_extra $s)
local macro_rules | `(tactic| ktr_unf) => `(tactic| k_extra "unf")
local macro_rules | `(tactic| ktr_rel) => `(tactic| k_extra "rel")
local macro_rules | `(tactic| kqd_in) => `(tactic| k_extra "in")
local macro_rules | `(tactic| kqd_all) => `(tactic| k_extra "all")
local macro_rules | `(tactic| kqd_sub) => `(tactic| k_extra "sub")
local macro_rules | `(tactic| k_mem) => `(tactic| k_extra "mem")
local macro_rules | `(tactic| k_all) => `(tactic| k_extra "kall")
local macro_rules | `(tactic| k_ne) => `(tactic| k_extra "ne")

section
open PySem PySem.W PyProof.Rows PySem.Calls

namespace Mine
noncomputable abbrev PW : Program := PySem.Challenge.pw_xm0632_01
noncomputable abbrev AR (dp un : Nat) (fs : Option (List Env)) (gd : Option (List Code)) : Around := { handled := none, depth := dp, frames := fs, guards := gd, units := un }
noncomputable abbrev Led := List (Addr × Obj)
noncomputable abbrev tup (vs : List Value) : Obj := { cls := .type "tuple", data := .seq vs.toArray }

/-- what every call here stands on -/
structure Gr (w : World) (h : Heap) : Prop where
  ex : ∃ loose mean mg mb, Top hd.view_39 loose mean mg mb h
  K : (hd.heap_39 w.params).In h
theorem grOf {w : World} {h : Heap} {loose : List Str} {mean : ExcName → Option Value} {mg mb : Str → Option Value} (T : Top hd.view_39 loose mean mg mb h) (X : (hd.heap_39 w.params).In h) : Gr w h := ⟨⟨_, _, _, _, T⟩, X⟩

/-- an object stands in the base or in the ledger -/
noncomputable def At (g : Heap) (tl : Led) (a : Addr) (o : Obj) : Prop := g.get? a = some o ∨ (a, o) ∈ tl
theorem At.up {g : Heap} {tl tl' : Led} (hs : ∀ p ∈ tl, p ∈ tl') : ∀ a o, At g tl a o → At g tl' a o := fun _ _ x => x.imp id (hs _)
theorem At.get {g h : Heap} {L : Addr} {m : Str → Option Value} {tl : Led} (F : Fr g L h m) (N : News g L h tl) : ∀ a o, At g tl a o → h.get? a = some o := fun _ _ x => x.elim (F.keep _ _) fun q => (N _ q).1

/-- a def is entered: the base is the heap less a part of the ledger; what the caller stands on comes back -/
theorem enterS {prog : Program} {w : World} {dp un : Nat} {fs : Option (List Env)} {gd : Option (List Code)} {K : Frag} {p : Program} {loose : List Str} {mean : ExcName → Option Value} {mg mb : Str → Option Value} {h₀ : Heap} {s : Shared} {L : Addr} {m : Str → Option Value} {news : Led}
    {R : Result → Shared → Prop} {f : Addr} {args : Args} {name qual : Str} {params : Arguments} {body : List Stmt} {scope : Scope} {dV kV doc pm cdv ct oc : Value} {an od : Option Addr} {osl : Array (Option Value)}
    (binds : List (Str × Value)) (sub : Led) (hsub : ∀ p ∈ sub, p ∈ news) (X : K.In h₀) (T : Top p loose mean mg mb h₀) (F : Fr h₀ L s.heap m) (N : News h₀ L s.heap news)
    (ho : K.lookup f = some ⟨oc, od, .func (fnOf name qual params body scope dV kV doc pm an cdv ct), osl⟩) (hcd : codeIn K cdv qual = true) (hroom : dp < recursionLimit)
    (hbind : BindsTo s (fnOf name qual params body scope dV kV doc pm an cdv ct) args binds) (hloc : ∀ y ∈ binds, scope.names.lookup y.1 = some .local)
    (hcell : ∀ x ∈ scope.names, x.2 ≠ .cell) (hco : scope.isCoroutine = false) (hgen : scope.isGenerator = false) (hk : scope.kind = .function)
    (h : ∀ g L' h₁, K.In g → Top p loose mean mg mb g → h₀.StaysIn g → (∀ a o, At h₀ news a o → At g sub a o) →
      (∀ h' m' news', Fr g L' h' m' → News g L' h' news' → Fr h₀ L h' m ∧ News h₀ L h' news' ∧ (∀ q ∈ news, q.1 ∉ sub.map Prod.fst → h'.get? q.1 = some q.2) ∧ ((∀ q ∈ sub, q ∈ news') → News h₀ L h' (news' ++ news))) →
      Fr g L' h₁ (fun y => binds.reverse.lookup y) → News g L' h₁ sub → (∀ p ∈ news, p.1 < L') →
      wpAny (model prog w) ((AR dp un fs gd).deeper (envOf qual scope L' f cdv)) (execs body (envOf qual scope L' f cdv))
        (fun fl s' => R (.ok (.ret (match fl with | .ret v => v | _ => .none))) s') (fun _ _ => False) { s with heap := h₁, toks := s.toks + binds.length }) :
    codeAny (model prog w) (AR dp un fs gd) (.call (.ref f) args) R s := by
  have st : h₀.StaysIn s.heap := F.keep
  have nm : ∀ b o, h₀.get? b = some o → b ∉ sub.map Prod.fst := fun b o e q => by
    obtain ⟨p, hp, rfl⟩ := List.mem_map.mp q
    rw [(N p (hsub p hp)).2.2] at e; cases e
  have stg : h₀.StaysIn (hideAll s.heap (sub.map Prod.fst)) := fun b o e => hideAll_get _ (st b o e) (nm b o e)
  obtain ⟨oL, es, ep, hL, hLd, hLk, hLf⟩ := F.ns
  have nL : L ∉ sub.map Prod.fst := fun q => by
    obtain ⟨p, hp, e⟩ := List.mem_map.mp q
    exact (N p (hsub p hp)).2.1 e
  have hLg := hideAll_get (sub.map Prod.fst) hL nL
  have func : ∀ p ∈ news, p.1 ∈ sub.map Prod.fst → p ∈ sub := fun p hp hq => by
    obtain ⟨q, hqs, e⟩ := List.mem_map.mp hq
    have e1 := (N p hp).1
    have e2 := (N q (hsub q hqs)).1
    rw [e, e1] at e2
    obtain ⟨qa, qo⟩ := q
    obtain ⟨pa, po⟩ := p
    cases e; cases e2
    exact hqs
  refine codeAny_call_def (fd := fnOf name qual params body scope dV kV doc pm an cdv ct) (body := body) (binds := binds) hroom (st _ _ (X _ _ ho)) rfl (T.nolimit.keeps st) (codeRec_of (X.keeps st) hcd) rfl hbind hcell hloc (fun h₁ hns hk₁ => ?_) hco hgen hk
  refine wpAny_mono (h (hideAll s.heap (sub.map Prod.fst)) s.heap.objs.size h₁ (X.keeps stg) (T.keeps stg) stg (fun a o x => ?_) (fun h' m' news' F' N' => ?_) ⟨hns, fun b o e => hk₁ b o (of_hideAll _ e), Nat.le_of_eq (hideAll_size _ _)⟩
    (fun p hp => ⟨hk₁ _ _ (N p (hsub p hp)).1, Nat.ne_of_lt (Heap.lt_size (N p (hsub p hp)).1), hideAll_none _ (List.mem_map_of_mem hp)⟩) (fun p hp => Heap.lt_size (N p hp).1)) (fun fl s' q => q) (fun _ _ q => q.elim)
  · rcases x with x | x
    · exact .inl (stg _ _ x)
    · by_cases q : a ∈ sub.map Prod.fst
      · exact .inr (func _ x q)
      · exact .inl (hideAll_get _ (N _ x).1 q)
  · have b1 : Fr h₀ L h' m := ⟨⟨oL, es, ep, F'.keep L oL hLg, hLd, hLk, hLf⟩, fun b o e => F'.keep b o (stg b o e), F.above⟩
    have b2 : News h₀ L h' news' := fun p hp => ⟨(N' p hp).1, (fun q => by
      have := (N' p hp).2.2; rw [q, hLg] at this; cases this), by
      cases q : h₀.get? p.1 with
      | none => rfl
      | some o => have := (N' p hp).2.2; rw [stg _ _ q] at this; cases this⟩
    have b3 : ∀ q ∈ news, q.1 ∉ sub.map Prod.fst → h'.get? q.1 = some q.2 := fun q hq hn => F'.keep _ _ (hideAll_get _ (N q hq).1 hn)
    refine ⟨b1, b2, b3, fun hs p hp => ?_⟩
    rcases List.mem_append.mp hp with hp | hp
    · exact b2 p hp
    · by_cases q : p.1 ∈ sub.map Prod.fst
      · exact b2 p (hs p (func p hp q))
      · exact ⟨b3 p hp q, (N p hp).2⟩

mutual
/-- a value is that datum, over objects that stand so -/
inductive DL (A : Addr → Obj → Prop) : Value → PyData → Prop
  | none : DL A .none .none
  | bool (b : Bool) : DL A (.bool b) (.bool b)
  | int (i : Int) (t : Tok) : DL A (.int i t) (.int i)
  | str (x : Str) (t : Tok) : DL A (.str x t) (.str x)
  | tuple {a : Addr} {o : Obj} {arr : Array Value} {n : Nat} {vs : List Value} {ds : List PyData} : A a o → o.cls = .type "tuple" → o.data = .seq arr n → arr.toList = vs → DLs A vs ds → DL A (.ref a) (.tuple ds)
  | list {a : Addr} {o : Obj} {arr : Array Value} {n : Nat} {vs : List Value} {ds : List PyData} : A a o → o.cls = .type "list" → o.data = .seq arr n → arr.toList = vs → DLs A vs ds → DL A (.ref a) (.list ds)
inductive DLs (A : Addr → Obj → Prop) : List Value → List PyData → Prop
  | nil : DLs A [] []
  | cons {v : Value} {d : PyData} {vs : List Value} {ds : List PyData} : DL A v d → DLs A vs ds → DLs A (v :: vs) (d :: ds)
end
section
variable {g h : Heap} {A B : Addr → Obj → Prop} {news : Led} {L : Addr} {m : Str → Option Value}
mutual
theorem DL.up (hs : ∀ a o, A a o → B a o) : ∀ {v : Value} {d : PyData}, DL A v d → DL B v d
  | _, _, .none => .none
  | _, _, .bool b => .bool b
  | _, _, .int i t => .int i t
  | _, _, .str x t => .str x t
  | _, _, .tuple hm hc hd he r => .tuple (hs _ _ hm) hc hd he (DLs.up hs r)
  | _, _, .list hm hc hd he r => .list (hs _ _ hm) hc hd he (DLs.up hs r)
theorem DLs.up (hs : ∀ a o, A a o → B a o) : ∀ {vs : List Value} {ds : List PyData}, DLs A vs ds → DLs B vs ds
  | _, _, .nil => .nil
  | _, _, .cons a r => .cons (DL.up hs a) (DLs.up hs r)
end
mutual
theorem DL.reads (t : ∀ a o, A a o → h.get? a = some o) : ∀ {v : Value} {d : PyData}, DL A v d → ∃ as, Reads h v d as
  | _, _, .none => ⟨_, .none⟩
  | _, _, .bool b => ⟨_, .bool b⟩
  | _, _, .int i t => ⟨_, .int i t⟩
  | _, _, .str x t => ⟨_, .str x t⟩
  | _, _, .tuple hm hc hd he r => let ⟨as, q⟩ := DLs.reads t r; ⟨as, .tuple (t _ _ hm) hc hd (by rw [he]; exact q)⟩
  | _, _, .list hm hc hd he r => let ⟨as, q⟩ := DLs.reads t r; ⟨_, .list (t _ _ hm) hc hd (by rw [he]; exact q)⟩
theorem DLs.reads (t : ∀ a o, A a o → h.get? a = some o) : ∀ {vs : List Value} {ds : List PyData}, DLs A vs ds → ∃ as, ReadsAll h vs ds as
  | _, _, .nil => ⟨_, .nil⟩
  | _, _, .cons a r => let ⟨_, p⟩ := DL.reads t a; let ⟨_, q⟩ := DLs.reads t r; ⟨_, .cons p q⟩
end
theorem DLs.append : ∀ {vs us : List Value} {ds es : List PyData}, DLs A vs ds → DLs A us es → DLs A (vs ++ us) (ds ++ es)
  | _, _, _, _, .nil, r => r
  | _, _, _, _, .cons a q, r => .cons a (DLs.append q r)
end

/-- a datum of small depth without dicts and floats -/
noncomputable def OkD (k : Nat) (d : PyData) : Prop := d.canLay0 = true ∧ d.depth ≤ k
noncomputable def OkDs (k : Nat) (ds : List PyData) : Prop := PyData.canLayAll0 ds = true ∧ PyData.depthAll ds ≤ k
theorem OkD.shaped {k : Nat} {d : PyData} (h : OkD k d) (hk : k ≤ 64) : SeqAt.shaped d = true := by
  unfold SeqAt.shaped
  rw [h.1, decide_eq_true (Nat.le_trans h.2 hk)]
  rfl
theorem OkD.none {k : Nat} : OkD (k + 1) .none := ⟨by simp [PyData.canLay0], by simp [PyData.depth]⟩
theorem OkD.bool {k : Nat} (b : Bool) : OkD (k + 1) (.bool b) := ⟨by simp [PyData.canLay0], by simp [PyData.depth]⟩
theorem OkD.int {k : Nat} (i : Int) : OkD (k + 1) (.int i) := ⟨by simp [PyData.canLay0], by simp [PyData.depth]⟩
theorem OkD.str {k : Nat} {x : Str} (hx : PyData.strOk x = true) : OkD (k + 1) (.str x) := ⟨by simp [PyData.canLay0, hx], by simp [PyData.depth]⟩
theorem OkDs.nil {k : Nat} : OkDs k [] := ⟨by simp [PyData.canLayAll0], by simp [PyData.depthAll]⟩
theorem OkDs.cons {k : Nat} {d : PyData} {ds : List PyData} (a : OkD k d) (r : OkDs k ds) : OkDs k (d :: ds) := ⟨by simp [PyData.canLayAll0, a.1, r.1], by simp only [PyData.depthAll]; have := a.2; have := r.2; omega⟩
theorem OkDs.append {k : Nat} {ds es : List PyData} (a : OkDs k ds) (r : OkDs k es) : OkDs k (ds ++ es) := by
  induction ds with
  | nil => exact r
  | cons d ds ih =>
    have h1 : d.canLay0 = true ∧ PyData.canLayAll0 ds = true := by simpa [PyData.canLayAll0] using a.1
    have h2 := a.2
    simp only [PyData.depthAll] at h2
    exact OkDs.cons ⟨h1.1, by omega⟩ (ih ⟨h1.2, by omega⟩)
theorem OkD.tuple {k : Nat} {ds : List PyData} (r : OkDs k ds) : OkD (k + 1) (.tuple ds) := ⟨by simp [PyData.canLay0, r.1], by simp only [PyData.depth]; have := r.2; omega⟩
theorem OkD.list {k : Nat} {ds : List PyData} (r : OkDs k ds) : OkD (k + 1) (.list ds) := ⟨by simp [PyData.canLay0, r.1], by simp only [PyData.depth]; have := r.2; omega⟩
theorem OkD.le {k j : Nat} {d : PyData} (h : OkD k d) (hk : k ≤ j) : OkD j d := ⟨h.1, Nat.le_trans h.2 hk⟩
theorem OkDs.le {k j : Nat} {d : List PyData} (h : OkDs k d) (hk : k ≤ j) : OkDs j d := ⟨h.1, Nat.le_trans h.2 hk⟩

theorem eqDL {prog : Program} {w : World} {A : Around} {E : Value → Shared → Prop} {s : Shared} {g : Heap} {L : Addr} {m : Str → Option Value} {news : Led} {a b : Value} {da db : PyData} {Q : Value → Shared → Prop}
    (F : Fr g L s.heap m) (N : News g L s.heap news) (ra : DL (At g news) a da) (rb : DL (At g news) b db) (ha : SeqAt.shaped da = true) (hb : SeqAt.shaped db = true) (hu : A.units + 64 < cLine)
    (h : Q (.bool (PyData.eqv da db)) s) : wpAny (model prog w) A (compareOp .Eq a b) Q E s := by
  obtain ⟨_, ra'⟩ := ra.reads (At.get F N)
  obtain ⟨_, rb'⟩ := rb.reads (At.get F N)
  exact eq_dataH ra' rb' ha hb hu h
theorem neDL {prog : Program} {w : World} {A : Around} {E : Value → Shared → Prop} {s : Shared} {g : Heap} {L : Addr} {m : Str → Option Value} {news : Led} {a b : Value} {da db : PyData} {Q : Value → Shared → Prop}
    (F : Fr g L s.heap m) (N : News g L s.heap news) (ra : DL (At g news) a da) (rb : DL (At g news) b db) (ha : SeqAt.shaped da = true) (hb : SeqAt.shaped db = true) (hu : A.units + 64 < cLine)
    (h : Q (.bool (!PyData.eqv da db)) s) : wpAny (model prog w) A (compareOp .NotEq a b) Q E s := by
  obtain ⟨_, ra'⟩ := ra.reads (At.get F N)
  obtain ⟨_, rb'⟩ := rb.reads (At.get F N)
  exact ne_dataH ra' rb' ha hb hu h
theorem room {p a c b lim : Nat} (h : p + a < lim) (hb : Nat.ble (c + b) a = true) : p + c + b < lim := Nat.lt_of_le_of_lt (by rw [Nat.add_assoc]; exact Nat.add_le_add_left (Nat.le_of_ble_eq_true hb) p) h
theorem ltC {a b D : Nat} {P : Prop} (h : b < D ∧ P) (k : (b < D ∧ P) → a < D) : a < D := k h
theorem skipL {A P G : Prop} (k : P → G) : A ∧ P → G := fun h => k h.2
theorem takeL {A P : Prop} : A ∧ P → A := And.left
theorem sameL {A : Prop} : A → A := id
end Mine
end

section
open PySem PySem.Spec PySem.W PyProof.Rows PySem.Calls PyProof.Rows.LCg
namespace Mine
noncomputable abbrev tests (env : Env) (ifs : List PySem.Expr) : Sem Bool := forIn ifs true fun c r => if r = true then do let ok ← isTrue c env (eval c env); pure (ForInStep.yield ok) else pure (ForInStep.yield r)
section
variable {prog : Program} {w : World} {A : Around} {s : Shared}

theorem compLoopG {elt target iter : PySem.Expr} {ifs : List PySem.Expr} {scope : Scope} {pos : Pos} {it acc : Value} {env : Env} {R : Result → Shared → Prop} (I : Nat → Shared → Prop)
    (turn : ∀ n s, I n s → ∀ E', wpAny (model prog w) A (pyNext it) (fun r s₁ => match r with
      | none => R (.ok .next) s₁
      | some v => wpAny (model prog w) A (letOwnedTupleGo target it v) (fun _ s₀ => wpAny (model prog w) A (assign target env v) (fun _ s₂ =>
          wpAny (model prog w) A (tests env ifs) (fun ok s₃ => if ok = true then wpAny (model prog w) A (eval elt env) (fun x s₄ =>
            wpAny (model prog w) A (call (.builtin "list.append") [acc, x]) (fun _ s₅ => ∃ m, m < n ∧ I m s₅) E' s₄) E' s₃ else ∃ m, m < n ∧ I m s₃) E' s₂) E' s₀) E' s₁) E' s)
    (n : Nat) (h : I n s) : codeAny (model prog w) A (.compLoop (.ListComp elt [⟨target, iter, ifs, 0⟩] scope pos) 0 it acc env) R s := by
  refine codeAny_loop rfl I (fun n s hI => ?_) n h
  show wpAny _ A ((compTurn (.ListComp elt [⟨target, iter, ifs, 0⟩] scope pos) 0 it acc env).onRaise (fun x => do noteFrame x env; theTreesLotGoes x)) _ _ s
  refine wpAny_noted ?_
  rw [compTurn_list]
  refine wpAny_bind (wpAny_standAt (wpAny_bind (wpAny_mono (turn n s hI _) (fun r s₁ h₁ => ?_) fun _ _ e => e)))
  cases r with
  | none => exact wpAny_pure h₁
  | some v =>
    refine wpAny_bind (wpAny_mono h₁ (fun _ s₀ h0 => ?_) fun _ _ e => e)
    refine wpAny_bind (wpAny_mono h0 (fun _ s₂ h₂ => ?_) fun _ _ e => e)
    refine wpAny_bind (wpAny_mono h₂ (fun ok s₃ h₃ => ?_) fun _ _ e => e)
    cases ok with
    | false => exact wpAny_pure ⟨rfl, h₃⟩
    | true => exact wpAny_bind (wpAny_bind (wpAny_mono h₃ (fun x s₄ h₄ => wpAny_bind (wpAny_mono h₄ (fun _ s₅ h₅ => wpAny_pure (wpAny_pure ⟨rfl, h₅⟩)) fun _ _ e => e)) fun _ _ e => e))

/-- the turns that are left, each from behind its target's binding -/
noncomputable def CRest (prog : Program) (w : World) (A : Around) (h₀ : Heap) (L : Addr) (m : Str → Option Value) (env : Env) (ifs : List PySem.Expr) (elt : PySem.Expr) (scope : Scope) (cl : List (Str × Addr)) (s : Shared) (S : Led → Prop) (P : Nat → Value → Prop)
    (B : Value → (Str → Option Value) → Prop) (Fin : List Value → Led → Prop) : Nat → Nat → List Value → Led → Prop
  | 0, _, ys, news => Fin ys news
  | k + 1, i, ys, news => ∀ v I oI C oC D m₂ h tk (E' : Value → Shared → Prop), P i v → B v m₂ → NsObj oC m₂ → Fr h₀ L h m → News h₀ L h ((I, oI) :: (C, oC) :: (D, lst ys) :: news) → Off3 I C D news → ((@Ne Nat I C) ∧ (@Ne Nat I D) ∧ (@Ne Nat C D)) →
      wpAny (model prog w) A (tests (compEnvC scope cl C env) ifs) (fun ok s₂ => if ok = true then
        wpAny (model prog w) A (eval elt (compEnvC scope cl C env)) (CompEnd h₀ L m { s with heap := h, toks := tk } I oI C oC D (lst ys) S (fun y news' => CRest prog w A h₀ L m env ifs elt scope cl s S P B Fin k (i + 1) (ys ++ [y]) news')) E' s₂
        else CompEnd h₀ L m { s with heap := h, toks := tk } I oI C oC D (lst ys) S (fun _ news' => CRest prog w A h₀ L m env ifs elt scope cl s S P B Fin k (i + 1) ys news') .none s₂) E' { s with heap := h, toks := tk }

variable {h₀ : Heap} {L : Addr} {m : Str → Option Value} {env : Env}

/-- between the turns of a comprehension -/
inductive CompSt (h₀ : Heap) (L : Addr) (m : Str → Option Value) (s₂ : Shared) (I C D : Addr) (n : Nat) (St : Nat → Heap → Prop) (S : Led → Prop) (Rs : Nat → Nat → List Value → Led → Prop) (k : Nat) (s' : Shared) : Prop
  | mk (h' : Heap) (tk i : Nat) (ys : List Value) (m' : Str → Option Value) (news' : Led) (es : s' = { s₂ with heap := h', toks := tk }) (hi : i ≤ n) (hk : k = n + 1 - i) (hy : ys.length ≤ i) (st : St i h') (F : Fr h₀ L h' m) (hn : h'.Ns C m') (N : News h₀ L h' ((D, lst ys) :: news')) (off : Off3 I C D news') (hS : S news') (R : Rs (n - i) i ys news')
/-- what a turn of a comprehension leaves -/
inductive CompBk (h₀ : Heap) (L : Addr) (m m₃ : Str → Option Value) (s₂ : Shared) (I C D : Addr) (o : Obj) (Sti : Heap → Prop) (S : Led → Prop) (Rs : Led → Prop) (s' : Shared) : Prop
  | mk (h' : Heap) (tk : Nat) (nw : Led) (es : s' = { s₂ with heap := h', toks := tk }) (hD : h'.get? D = some o) (st : Sti h') (F : Fr h₀ L h' m) (hn : h'.Ns C m₃) (N : News h₀ L h' nw) (off : Off3 I C D nw) (hS : S nw) (R : Rs nw)
theorem comp_block {elt target iter : PySem.Expr} {ifs : List PySem.Expr} {scope : Scope} {cl : List (Str × Addr)} {pos : Pos} {s₂ : Shared} {I : Addr} {fp : List Addr} {n : Nat} {P : Nat → Value → Prop} {St : Nat → Heap → Prop} {S : Led → Prop} {B : Value → (Str → Option Value) → Prop} {news : Led}
    {Fin : List Value → Led → Prop} {RR : Value → Addr → Result → Shared → Prop}
    (W : Walks prog w A I fp [I] n P St) (hsz : n ≤ sizeLine) (hIo : ∀ i h, St i h → ∃ o, h.get? I = some o)
    (hSt : ∀ i h h' o nw, St i h → h.get? I = some o → h'.get? I = some o → (∀ b o, h₀.get? b = some o → h'.get? b = some o) → News h₀ L h' nw → S nw → St i h')
    (hgo : ∀ i (s : Shared) v (Q : Unit → Shared → Prop) (E' : Value → Shared → Prop), St i s.heap → Q () s → wpAny (model prog w) A (letOwnedTupleGo target (.ref I) v) Q E' s)
    (hasg : ∀ i C v (s : Shared) m₁ nw (E' : Value → Shared → Prop), i < n → P i v → s.heap.Ns C m₁ → C ≠ L → Fr h₀ L s.heap m → News h₀ L s.heap nw → S nw →
      wpAny (model prog w) A (assign target (compEnvC scope cl C env) v) (fun _ s₁ => ∃ h' tk m', s₁ = { s with heap := h', toks := tk } ∧ h'.Ns C m' ∧ B v m' ∧ ∀ b o, b ≠ C → s.heap.get? b = some o → h'.get? b = some o) E' s)
    (hcell : ∀ y ∈ scope.names, y.2 ≠ .cell) (hkind : scope.kind = .function) (hst : St 0 s₂.heap) (hfp : ∀ b ∈ fp, b < s₂.heap.objs.size)
    (F : Fr h₀ L s₂.heap m) (N : News h₀ L s₂.heap news) (hIL : L ≠ I) (hI₀ : h₀.get? I = none) (off : ∀ p ∈ news, p.1 ≠ I) (hS : S news)
    (R : CRest prog w A h₀ L m env ifs elt scope cl s₂ S P B Fin n 0 [] news)
    (hRR : ∀ D C h tk m' ys news', Fr h₀ L h m → News h₀ L h ((D, lst ys) :: news') → Off1 D news' → h.Ns C m' → h₀.get? C = none → h₀.get? D = none → C ≠ L → D ≠ L → C ≠ D → (∀ p ∈ news', p.1 ≠ C) → (∀ p ∈ news, @LT.lt Nat _ p.1 D) → Fin ys news' → RR (.ref D) C (.ok .next) { s₂ with heap := h, toks := tk }) :
    wpAny (model prog w) A (newList []) (fun acc s₃ => wpAny (model prog w) A (newFunctionEnv scope env.globals cl [] env.qual none .none (some env)) (fun cenv s₄ =>
      codeAny (model prog w) A (.compStart (.ListComp elt [⟨target, iter, ifs, 0⟩] scope pos) 0 (.ref I) acc { cenv with scope := relabel scope env }) (RR acc cenv.locals) s₄) (fun _ _ => False) s₃) (fun _ _ => False) s₂ := by
  refine wpAny_newObj_type (wpAny_newFunctionEnv hcell (by intro y hy; simp at hy) (fun h₁ hns₁ hsb₁ => ?_) hkind)
  dsimp only at hns₁ hsb₁ ⊢
  generalize hH2 : s₂.heap.push { cls := .type "list", dict := none, data := .seq ([] : List Value).toArray } = H2 at hns₁ hsb₁ ⊢
  generalize hDd : s₂.heap.objs.size = D at *
  have hC : H2.objs.size = D + 1 := by rw [← hH2, Heap.size_push, hDd]
  generalize hCc : H2.objs.size = C at *
  have lDC : @LT.lt Nat _ D C := by rw [hC]; exact Nat.lt_succ_self D
  have hDC : D ≠ C := Nat.ne_of_lt lDC
  have low : ∀ b : Nat, b < D → b ≠ C ∧ b ≠ D := fun b hb => ⟨Nat.ne_of_lt (Nat.lt_trans hb lDC), Nat.ne_of_lt hb⟩
  have lowO : ∀ (b : Nat) o, s₂.heap.get? b = some o → b < D := fun b o e => hDd ▸ Heap.lt_size e
  have hIlt : @LT.lt Nat _ I D := hfp I (W.sub I (List.mem_singleton.mpr rfl))
  have old : ∀ b o, s₂.heap.get? b = some o → h₁.get? b = some o := fun b o e => hsb₁.extBut b o (low b (lowO b o e)).1 (Heap.get?_push_of_some _ (hH2 ▸ Heap.get?_push_of_some _ e))
  have hacc : h₁.get? D = some (lst []) := hsb₁.extBut _ _ hDC (Heap.get?_push_of_some _ (hH2 ▸ hDd ▸ Heap.get?_push_size _ rfl))
  have hst₁ : St 0 h₁ := W.frame _ _ _ hst fun b _ o e => old b o e
  have fresh₀ : ∀ a : Nat, D ≤ a → h₀.get? a = none := fun a ha => by
    cases e : h₀.get? a with
    | none => rfl
    | some o' => exact absurd (lowO _ _ (F.keep a o' e)) (Nat.not_lt.mpr ha)
  have hD₀ : h₀.get? D = none := fresh₀ _ (Nat.le_refl _)
  have hC₀ : h₀.get? C = none := fresh₀ _ (Nat.le_of_lt lDC)
  have hLlt : @LT.lt Nat _ L D := hDd ▸ F.ns.lt
  have hDL : @Ne Nat D L := Ne.symm (Nat.ne_of_lt hLlt)
  have hCL : @Ne Nat C L := Ne.symm (Nat.ne_of_lt (Nat.lt_trans hLlt lDC))
  have hCI : @Ne Nat I C := Nat.ne_of_lt (Nat.lt_trans hIlt lDC)
  have hDI : @Ne Nat I D := Nat.ne_of_lt hIlt
  have off₀ : Off3 I C D news := Off3.of fun p hp => ⟨off p hp, (low _ (lowO _ _ (N p hp).1)).1, (low _ (lowO _ _ (N p hp).1)).2⟩
  have hCf : C ∉ fp := fun hm => Nat.lt_asymm lDC (hfp _ hm)
  have hDf : D ∉ fp := fun hm => Nat.lt_irrefl _ (hfp _ hm)
  have loop : ∀ s₃ : Shared, s₃ = { s₂ with heap := h₁, toks := s₂.toks + ([] : List (Str × Value)).length } →
      codeAny (model prog w) A (.compLoop (.ListComp elt [⟨target, iter, ifs, 0⟩] scope pos) 0 (.ref I) (.ref D) (compEnvC scope cl C env)) (RR (.ref D) C) s₃ := by
    rintro s₃ rfl
    refine compLoopG
      (CompSt h₀ L m s₂ I C D n St S (CRest prog w A h₀ L m env ifs elt scope cl s₂ S P B Fin)) ?_ (n + 1)
      ⟨h₁, _, 0, [], _, news, rfl, Nat.zero_le _, rfl, Nat.le_refl _, hst₁, F.keeps old, hns₁, fun p hp => ?_, off₀, hS, R⟩
    · rintro k s' ⟨h', tk, i, ys, m', news', rfl, hi, rfl, hyl, hst', F', hn', N', off', hS', R'⟩ E'
      have off3 := off'.mem
      by_cases hlt : i < n
      · obtain ⟨j, hj⟩ : ∃ j, n - i = j + 1 := Nat.exists_eq_succ_of_ne_zero (Nat.sub_ne_zero_of_lt hlt)
        have hj2 : n - (i + 1) = j := by rw [Nat.sub_succ, hj]; rfl
        have hlt2 : n + 1 - (i + 1) < n + 1 - i := Nat.sub_lt_sub_left (Nat.lt_succ_of_lt hlt) (Nat.lt_succ_self i)
        rw [hj] at R'
        refine W.item i _ _ _ hlt hst' fun v h₂ tk₂ hPv hst₂ hk₂ => ?_
        have N₂ : News h₀ L h₂ ((D, lst ys) :: news') := news_but N' hk₂ fun p hp => by
          rcases List.mem_cons.mp hp with rfl | hp
          · exact Ne.symm hDI
          · exact (off3 p hp).1
        have F₂ := fr_but F' hk₂ hIL hI₀
        have hn₂ : h₂.Ns C m' := hn'.at' fun o e => hk₂ _ o (by simpa using Ne.symm hCI) e
        refine hgo (i + 1) _ v _ E' hst₂ ?_
        refine wpAny_mono (hasg i C v { s₂ with heap := h₂, toks := tk₂ } m' news' E' hlt hPv hn₂ hCL F₂ (fun p hp => N₂ p (List.mem_cons_of_mem _ hp)) hS') (fun _ s₄ h₄ => ?_) fun _ _ e => e
        obtain ⟨h₃, tk₃, m₃, rfl, hn₃, hB, hk₃⟩ := h₄
        have hst₃ : St (i + 1) h₃ := W.frame _ _ _ hst₂ fun b hb o e => hk₃ b o (fun q => hCf (q ▸ hb)) e
        obtain ⟨oI, heI⟩ := hIo _ _ hst₃
        obtain ⟨oC, heC, hoC⟩ := ns_obj hn₃
        have F₃ : Fr h₀ L h₃ m := ⟨F₂.ns.at' fun o e => hk₃ _ o (Ne.symm hCL) e, fun b o e => hk₃ b o (fun q => by rw [q, hC₀] at e; cases e) (F₂.keep b o e), F₂.above⟩
        have N₃ : News h₀ L h₃ ((I, oI) :: (C, oC) :: (D, lst ys) :: news') := fun p hp => by
          rcases List.mem_cons.mp hp with rfl | hp
          · exact ⟨heI, Ne.symm hIL, hI₀⟩
          · rcases List.mem_cons.mp hp with rfl | hp
            · exact ⟨heC, hCL, hC₀⟩
            · have z := N₂ p hp
              refine ⟨hk₃ _ _ ?_ z.1, z.2⟩
              rcases List.mem_cons.mp hp with rfl | hp
              · exact hDC
              · exact (off3 p hp).2.1
        refine wpAny_mono (R' v I oI C oC D m₃ h₃ tk₃ E' hPv hB hoC F₃ N₃ off' ⟨hCI, hDI, Ne.symm hDC⟩) (fun ok s₄ h₄ => ?_) fun _ _ e => e
        -- what a turn leaves
        have back : ∀ (ys' : List Value) (y : Value) s₅, CompEnd h₀ L m { s₂ with heap := h₃, toks := tk₃ } I oI C oC D (lst ys) S (fun _ nw => CRest prog w A h₀ L m env ifs elt scope cl s₂ S P B Fin j (i + 1) ys' nw) y s₅ →
            CompBk h₀ L m m₃ s₂ I C D (lst ys) (St (i + 1)) S (CRest prog w A h₀ L m env ifs elt scope cl s₂ S P B Fin j (i + 1) ys') s₅ := by
          rintro ys' y s₅ ⟨h₅, tk₅, nw, rfl, F₅, N₅, off₅, hS₅, R₅⟩
          have N₅' : News h₀ L h₅ nw := fun p hp => N₅ p (List.mem_cons_of_mem _ (List.mem_cons_of_mem _ (List.mem_cons_of_mem _ hp)))
          exact ⟨h₅, tk₅, nw, rfl, (N₅ _ (List.mem_cons_of_mem _ (List.mem_cons_of_mem _ List.mem_cons_self))).1, hSt _ _ _ _ _ hst₃ heI (N₅ _ List.mem_cons_self).1 F₅.keep N₅' hS₅, F₅,
            hoC.ns (N₅ _ (List.mem_cons_of_mem _ List.mem_cons_self)).1, N₅', off₅, hS₅, R₅⟩
        cases ok with
        | false =>
          obtain ⟨h₅, tk₅, nw, rfl, zD, hst₅, F₅, hn₅, N₅, off₅, hS₅, R₅⟩ := back ys .none s₄ h₄
          refine ⟨n + 1 - (i + 1), hlt2, h₅, tk₅, i + 1, ys, _, nw, rfl, hlt, rfl, Nat.le_succ_of_le hyl, hst₅, F₅, hn₅, fun p hp => ?_, off₅, hS₅, ?_⟩
          · rcases List.mem_cons.mp hp with rfl | hp
            · exact ⟨zD, hDL, hD₀⟩
            · exact N₅ p hp
          · rw [hj2]; exact R₅
        | true =>
          refine wpAny_mono h₄ (fun y s₅ h₅ => ?_) fun _ _ e => e
          obtain ⟨h₅, tk₅, nw, rfl, zD, hst₅, F₅, hn₅, N₅, off₅, hS₅, R₅⟩ := back (ys ++ [y]) y s₅ h₅
          refine append_at (hsz := by show ys.toArray.size ≤ sizeLine; rw [List.size_toArray]; omega) zD fun h₆ hs₆ hD₆ => ?_
          have off5 := off₅.mem
          refine ⟨n + 1 - (i + 1), hlt2, h₆, tk₅, i + 1, ys ++ [y], _, nw, rfl, hlt, rfl, by rw [List.length_append, List.length_singleton]; exact Nat.succ_le_succ hyl, W.frame _ _ _ hst₅ fun b hb o e => hs₆.extBut b o (fun q => hDf (q ▸ hb)) e, F₅.change hs₆ hDL hD₀,
            hn₅.sameBut hs₆ (Ne.symm hDC), fun p hp => ?_, off₅, hS₅, ?_⟩
          · rcases List.mem_cons.mp hp with rfl | hp
            · exact ⟨hD₆.trans (congrArg some (lst_snoc ys y)), hDL, hD₀⟩
            · exact ⟨hs₆.extBut _ _ (off5 p hp).2.2 (N₅ p hp).1, (N₅ p hp).2⟩
          · rw [hj2]; exact R₅
      · obtain rfl : i = n := Nat.le_antisymm hi (Nat.not_lt.mp hlt)
        rw [Nat.sub_self] at R'
        refine W.done _ _ _ hst' fun h₂ tk₂ hk₂ => ?_
        exact hRR _ _ h₂ tk₂ _ ys news' (fr_but F' hk₂ hIL hI₀) (news_but N' hk₂ fun p hp => by
          rcases List.mem_cons.mp hp with rfl | hp
          · exact Ne.symm hDI
          · exact (off3 p hp).1) off'.one (hn'.at' fun o e => hk₂ _ o (by simpa using Ne.symm hCI) e) hC₀ hD₀ hCL hDL (Ne.symm hDC) (fun p hp => (off3 p hp).2.1) (fun p hp => lowO _ _ (N p hp).1) R'
    · rcases List.mem_cons.mp hp with rfl | hp
      · exact ⟨hacc, hDL, hD₀⟩
      · exact ⟨old _ _ (N p hp).1, (N p hp).2⟩
  exact codeAny_compStart_list (loop _ rfl) (W.self 0 _ _ _ hst₁ (loop _ rfl))
end
end Mine
end

section
open PySem PySem.Spec PySem.W PyProof.Rows PySem.Calls PyProof.Rows.LCg
namespace Mine
section
variable {prog : Program} {w : World} {A : Around} {E : Value → Shared → Prop} {s : Shared} {h₀ : Heap} {L : Addr} {m : Str → Option Value} {env : Env}

theorem goQuiet {target : PySem.Expr} {I : Addr} {v : Value} {o : Obj} {T : String} {Q : Unit → Shared → Prop} (ho : s.heap.get? I = some o) (hc : o.cls = .type T)
    (hT : (["enumerate", "zip", "dict_itemiterator", "dict_reverseitemiterator", "odict_iterator", "itertools.zip_longest", "itertools.pairwise"] : List String).contains T = false) (hQ : Q () s) :
    wpAny (model prog w) A (letOwnedTupleGo target (.ref I) v) Q E s := by
  cases target <;> unfold letOwnedTupleGo <;> first | exact wpAny_pure hQ | skip
  all_goals
    cases v with
    | ref a =>
      refine wpAny_bind (wpAny_load ho ?_)
      rw [hc]
      cases o.data <;> first | exact wpAny_pure hQ | skip
      dsimp only
      rw [if_neg (by rw [hT, Bool.false_and]; exact Bool.false_ne_true)]
      exact wpAny_pure hQ
    | _ => exact wpAny_pure hQ

noncomputable def TupAt (h₀ : Heap) (ax : Addr) (its : Array Value) (news : Led) : Prop := h₀.IsTuple ax its ∨ ∃ o, (ax, o) ∈ news ∧ o.cls = .type "tuple" ∧ ∃ n, o.data = .seq its n
theorem TupAt.tuple {h : Heap} {ax : Addr} {its : Array Value} {news : Led} (x : TupAt h₀ ax its news) (k : ∀ b o, h₀.get? b = some o → h.get? b = some o) (N : News h₀ L h news) : h.IsTuple ax its := by
  rcases x with ⟨o, e, r⟩ | ⟨o, hm, r⟩
  · exact ⟨o, k _ _ e, r⟩
  · exact ⟨o, (N _ hm).1, r⟩

/-- how an item is bound -/
noncomputable abbrev Asg (prog : Program) (w : World) (A : Around) (h₀ : Heap) (L : Addr) (m : Str → Option Value) (env : Env) (target : PySem.Expr) (scope : Scope) (cl : List (Str × Addr)) (S : Led → Prop) (P : Nat → Value → Prop) (B : Value → (Str → Option Value) → Prop) (n : Nat) : Prop :=
  ∀ i C v (s : Shared) m₁ nw (E' : Value → Shared → Prop), i < n → P i v → s.heap.Ns C m₁ → C ≠ L → Fr h₀ L s.heap m → News h₀ L s.heap nw → S nw →
    wpAny (model prog w) A (assign target (compEnvC scope cl C env) v) (fun _ s₁ => ∃ h' tk m', s₁ = { s with heap := h', toks := tk } ∧ h'.Ns C m' ∧ B v m' ∧ ∀ b o, b ≠ C → s.heap.get? b = some o → h'.get? b = some o) E' s

theorem comp_list {elt target iter : PySem.Expr} {ifs : List PySem.Expr} {scope : Scope} {cl : List (Str × Addr)} {pos : Pos} {Q : Value → Shared → Prop} (hh : A.handled = none)
    (hclos : closureFor scope env = pure cl) (hcell : ∀ y ∈ scope.names, y.2 ≠ .cell) (hkind : scope.kind = .function)
    (hnames : ∀ y ∈ scope.names, y.2 = .local → scope.names.lookup y.1 = some .local) (hs : ∀ x, foldedSetIterable iter env x = pure x)
    (h : wpAny (model prog w) A (eval iter env) (fun xv s₁ => ∃ ax its news B, xv = .ref ax ∧ Fr h₀ L s₁.heap m ∧ News h₀ L s₁.heap news ∧ SrcAt h₀ ax its news ∧ its.size ≤ sizeLine ∧ Asg prog w A h₀ L m env target scope cl (SrcAt h₀ ax its) (fun i v => its[i]? = some v) B its.size ∧
      ∀ g : Heap, CRest prog w A h₀ L m env ifs elt scope cl { s₁ with heap := g } (SrcAt h₀ ax its) (fun i v => its[i]? = some v) B (FinE h₀ L m { s₁ with heap := g } Q) its.size 0 [] news) E s) :
    wpAny (model prog w) A (eval (.ListComp elt [⟨target, iter, ifs, 0⟩] scope pos) env) Q E s := by
  rw [eval_ListComp]
  refine wpAny_comprehension_free (use := none) rfl hs hclos hkind hnames (wpAny_mono h (fun xv s₁ h₁ => ?_) fun _ _ e => e)
  obtain ⟨ax, its, news, B, rfl, F, N, S, hsz, hasg, R⟩ := h₁
  have hl := S.list F.keep N
  have hlt : ax < s₁.heap.objs.size := by obtain ⟨_, e, _⟩ := hl; exact Heap.lt_size e
  refine wpAny_pyIter_list hl ?_
  have up : ∀ b o, s₁.heap.get? b = some o → (s₁.heap.push { cls := .type "list_iterator", data := .fields #[.ref ax, .int 0 0] }).get? b = some o := fun b o e => Heap.get?_push_of_some _ e
  refine wpAny_mono (comp_block (B := B) (S := SrcAt h₀ ax its) (Fin := FinE h₀ L m { s₁ with heap := s₁.heap.push { cls := .type "list_iterator", data := .fields #[.ref ax, .int 0 0] } } Q) (news := news)
    (RR := compPost (model prog w) A E none Q) (Walks.list hh s₁.heap.objs.size ax (Nat.ne_of_lt hlt) its) hsz (fun i h st => by obtain ⟨o, e, _⟩ := st.1; exact ⟨o, e⟩) list_st
    (fun i s v Q E' st hQ => by obtain ⟨o, e, hc, _⟩ := st.1; exact goQuiet e hc (by decide) hQ) hasg hcell hkind ⟨⟨_, Heap.get?_push_size _ rfl, rfl, rfl⟩, hl.push _⟩ (fun b hb => ?_)
    (F.keeps up) (N.grown up) (Nat.ne_of_lt F.ns.lt) (next_is_new F) (fun p hp => Nat.ne_of_lt (Heap.lt_size (N p hp).1)) S (R _) ?_) (fun _ _ q => wpAny_mono q (fun _ _ q => q) fun _ _ q => q.elim) fun _ _ q => q.elim
  · show b < (s₁.heap.push _).objs.size
    rw [Heap.size_push]
    rcases List.mem_cons.mp hb with rfl | hb
    · exact Nat.lt_succ_self _
    · rw [List.mem_singleton.mp hb]; exact Nat.lt_succ_of_lt hlt
  · intro D C h tk m' ys news' F' N' o1 hn hC₀ hD₀ hCL hDL hCD offC hlt fin
    refine ⟨m', hn, fun h'' hs'' => fin D h'' tk (F'.change hs'' hCL hC₀) (fun p hp => ?_) o1⟩
    refine ⟨hs''.extBut _ _ ?_ (N' p hp).1, (N' p hp).2⟩
    rcases List.mem_cons.mp hp with rfl | hp
    · exact Ne.symm hCD
    · exact offC p hp

theorem tup_st {ax I : Addr} {its : Array Value} : ∀ i (h h' : Heap) (o : Obj) (nw : Led), (h.IsTupleIter I ax i ∧ h.IsTuple ax its) → h.get? I = some o → h'.get? I = some o → (∀ b o, h₀.get? b = some o → h'.get? b = some o) → News h₀ L h' nw → TupAt h₀ ax its nw → (h'.IsTupleIter I ax i ∧ h'.IsTuple ax its) :=
  fun i h h' o nw st e e' k N S => ⟨by obtain ⟨o', q, r⟩ := st.1; rw [e] at q; cases q; exact ⟨o, e', r⟩, S.tuple k N⟩

theorem comp_tuple {elt target iter : PySem.Expr} {ifs : List PySem.Expr} {scope : Scope} {cl : List (Str × Addr)} {pos : Pos} {Q : Value → Shared → Prop} (hh : A.handled = none)
    (hclos : closureFor scope env = pure cl) (hcell : ∀ y ∈ scope.names, y.2 ≠ .cell) (hkind : scope.kind = .function)
    (hnames : ∀ y ∈ scope.names, y.2 = .local → scope.names.lookup y.1 = some .local) (hs : ∀ x, foldedSetIterable iter env x = pure x)
    (h : wpAny (model prog w) A (eval iter env) (fun xv s₁ => ∃ ax its news B, xv = .ref ax ∧ Fr h₀ L s₁.heap m ∧ News h₀ L s₁.heap news ∧ TupAt h₀ ax its news ∧ its.size ≤ sizeLine ∧ Asg prog w A h₀ L m env target scope cl (TupAt h₀ ax its) (fun i v => its[i]? = some v) B its.size ∧
      ∀ g : Heap, CRest prog w A h₀ L m env ifs elt scope cl { s₁ with heap := g } (TupAt h₀ ax its) (fun i v => its[i]? = some v) B (FinE h₀ L m { s₁ with heap := g } Q) its.size 0 [] news) E s) :
    wpAny (model prog w) A (eval (.ListComp elt [⟨target, iter, ifs, 0⟩] scope pos) env) Q E s := by
  rw [eval_ListComp]
  refine wpAny_comprehension_free (use := none) rfl hs hclos hkind hnames (wpAny_mono h (fun xv s₁ h₁ => ?_) fun _ _ e => e)
  obtain ⟨ax, its, news, B, rfl, F, N, S, hsz, hasg, R⟩ := h₁
  have hl := S.tuple F.keep N
  have hlt : ax < s₁.heap.objs.size := by obtain ⟨_, e, _⟩ := hl; exact Heap.lt_size e
  refine wpAny_pyIter_tuple hl ?_
  have up : ∀ b o, s₁.heap.get? b = some o → (s₁.heap.push { cls := .type "tuple_iterator", data := .fields #[.ref ax, .int 0 0] }).get? b = some o := fun b o e => Heap.get?_push_of_some _ e
  refine wpAny_mono (comp_block (B := B) (S := TupAt h₀ ax its) (Fin := FinE h₀ L m { s₁ with heap := s₁.heap.push { cls := .type "tuple_iterator", data := .fields #[.ref ax, .int 0 0] } } Q) (news := news)
    (RR := compPost (model prog w) A E none Q) (Walks.tuple hh s₁.heap.objs.size ax (Nat.ne_of_lt hlt) its) hsz (fun i h st => by obtain ⟨o, e, _⟩ := st.1; exact ⟨o, e⟩) tup_st
    (fun i s v Q E' st hQ => by obtain ⟨o, e, hc, _⟩ := st.1; exact goQuiet e hc (by decide) hQ) hasg hcell hkind ⟨⟨_, Heap.get?_push_size _ rfl, rfl, rfl⟩, ?_⟩ (fun b hb => ?_)
    (F.keeps up) (N.grown up) (Nat.ne_of_lt F.ns.lt) (next_is_new F) (fun p hp => Nat.ne_of_lt (Heap.lt_size (N p hp).1)) S (R _) ?_) (fun _ _ q => wpAny_mono q (fun _ _ q => q) fun _ _ q => q.elim) fun _ _ q => q.elim
  · obtain ⟨o, e, r⟩ := hl; exact ⟨o, up _ _ e, r⟩
  · show b < (s₁.heap.push _).objs.size
    rw [Heap.size_push]
    rcases List.mem_cons.mp hb with rfl | hb
    · exact Nat.lt_succ_self _
    · rw [List.mem_singleton.mp hb]; exact Nat.lt_succ_of_lt hlt
  · intro D C h tk m' ys news' F' N' o1 hn hC₀ hD₀ hCL hDL hCD offC hlt fin
    refine ⟨m', hn, fun h'' hs'' => fin D h'' tk (F'.change hs'' hCL hC₀) (fun p hp => ?_) o1⟩
    refine ⟨hs''.extBut _ _ ?_ (N' p hp).1, (N' p hp).2⟩
    rcases List.mem_cons.mp hp with rfl | hp
    · exact Ne.symm hCD
    · exact offC p hp

noncomputable def FinR (h₀ : Heap) (L : Addr) (m : Str → Option Value) (s : Shared) (Q : Value → Shared → Prop) (news₀ : Led) (ys : List Value) (news : Led) : Prop :=
  ∀ D h tk, Fr h₀ L h m → News h₀ L h ((D, lst ys) :: news) → Off1 D news → (∀ p ∈ news₀, @LT.lt Nat _ p.1 D) → Q (.ref D) { s with heap := h, toks := tk }
inductive RngS (prog : Program) (w : World) (A : Around) (h₀ : Heap) (L : Addr) (m : Str → Option Value) (env : Env) (elt target : PySem.Expr) (ifs : List PySem.Expr) (scope : Scope) (cl : List (Str × Addr)) (Q : Value → Shared → Prop) (xv : Value) (s₁ : Shared) : Prop
  | intro (r : Addr) (a b : Int) (t u v : Tok) (n : Nat) (news : Led) (B : Value → (Str → Option Value) → Prop) (e : xv = .ref r) (F : Fr h₀ L s₁.heap m) (N : News h₀ L s₁.heap news) (hr : IsRange s₁.heap r a b 1 t u v) (hs : Builtin.Range.small a b 1 = true) (hn : Builtin.Range.rangeSize a b 1 = ((n : Nat) : Int)) (hz : n ≤ sizeLine)
      (ha : Asg prog w A h₀ L m env target scope cl (fun _ => True) (fun i v => ∃ t, v = .int (a + (i : Int)) t) B n)
      (R : ∀ g : Heap, CRest prog w A h₀ L m env ifs elt scope cl { s₁ with heap := g } (fun _ => True) (fun i v => ∃ t, v = .int (a + (i : Int)) t) B (FinR h₀ L m { s₁ with heap := g } Q news) n 0 [] news)
theorem comp_range {elt target iter : PySem.Expr} {ifs : List PySem.Expr} {scope : Scope} {cl : List (Str × Addr)} {pos : Pos} {Q : Value → Shared → Prop} (hh : A.handled = none)
    (hclos : closureFor scope env = pure cl) (hcell : ∀ y ∈ scope.names, y.2 ≠ .cell) (hkind : scope.kind = .function)
    (hnames : ∀ y ∈ scope.names, y.2 = .local → scope.names.lookup y.1 = some .local) (hs : ∀ x, foldedSetIterable iter env x = pure x)
    (h : wpAny (model prog w) A (eval iter env) (RngS prog w A h₀ L m env elt target ifs scope cl Q) E s) :
    wpAny (model prog w) A (eval (.ListComp elt [⟨target, iter, ifs, 0⟩] scope pos) env) Q E s := by
  rw [eval_ListComp]
  refine wpAny_comprehension_free (use := none) rfl hs hclos hkind hnames (wpAny_mono h (fun xv s₁ h₁ => ?_) fun _ _ e => e)
  obtain ⟨r, a, b, t, u, v, n, news, B, rfl, F, N, hr, hsm, hn, hsz, hasg, R⟩ := h₁
  refine wpAny_pyIter_range hr hsm ?_
  have up : ∀ b' o, s₁.heap.get? b' = some o → (s₁.heap.push { cls := .type "range_iterator", data := .fields #[.int a 0, .int (Builtin.Range.rangeSize a b 1) 0, .int 1 0] }).get? b' = some o := fun b o e => Heap.get?_push_of_some _ e
  refine wpAny_mono (comp_block (B := B) (S := fun _ => True) (Fin := FinR h₀ L m { s₁ with heap := s₁.heap.push { cls := .type "range_iterator", data := .fields #[.int a 0, .int (Builtin.Range.rangeSize a b 1) 0, .int 1 0] } } Q news) (news := news)
    (RR := compPost (model prog w) A E none Q) (range_walks (I := s₁.heap.objs.size) hh a n) hsz (fun i h st => ⟨_, st⟩) range_st
    (fun i s v Q E' st hQ => goQuiet st rfl (by decide) hQ) hasg hcell hkind ?_ (fun b hb => ?_)
    (F.keeps up) (N.grown up) (Nat.ne_of_lt F.ns.lt) (next_is_new F) (fun p hp => Nat.ne_of_lt (Heap.lt_size (N p hp).1)) trivial (R _) ?_) (fun _ _ q => wpAny_mono q (fun _ _ q => q) fun _ _ q => q.elim) fun _ _ q => q.elim
  · show IsRangeIter _ _ _ _ _; rw [hn]; simpa using Heap.get?_push_size _ rfl
  · show b < (s₁.heap.push _).objs.size
    rw [Heap.size_push, List.mem_singleton.mp hb]; exact Nat.lt_succ_self _
  · intro D C h tk m' ys news' F' N' o1 hn hC₀ hD₀ hCL hDL hCD offC hlt fin
    refine ⟨m', hn, fun h'' hs'' => fin D h'' tk (F'.change hs'' hCL hC₀) (fun p hp => ?_) o1 hlt⟩
    refine ⟨hs''.extBut _ _ ?_ (N' p hp).1, (N' p hp).2⟩
    rcases List.mem_cons.mp hp with rfl | hp
    · exact Ne.symm hCD
    · exact offC p hp

/-- a name is bound -/
theorem asg_name {x : Str} {px : Pos} {scope : Scope} {cl : List (Str × Addr)} {S : Led → Prop} {P : Nat → Value → Prop} {n : Nat} (hkind : scope.kind = .function) (hx : scope.names.lookup x = some .local) :
    Asg prog w A h₀ L m env (.Name x px) scope cl S P (fun v m' => m' x = some v) n := by
  intro i C v s m₁ nw E' _ _ hn _ _ _ _
  refine wpAny_assign_Name (wpAny_storeName_local (lookup_relabel_local hx) hn (fun h₃ hn₃ hs₃ => ?_) (by simp [compEnvC, relabel, hkind]))
  exact ⟨h₃, _, _, rfl, hn₃, by simp, fun b o hb e => hs₃.extBut b o hb e⟩

/-- names are bound to a tuple's items -/
theorem asg_pair {a b : Str} {pa pb tp : Pos} {kk : Nat} {scope : Scope} {cl : List (Str × Addr)} {S : Led → Prop} {P : Nat → Value → Prop} {n : Nat} {B : Value → (Str → Option Value) → Prop} (hh : A.handled = none) (hkind : scope.kind = .function) (ha : scope.names.lookup a = some .local) (hb : scope.names.lookup b = some .local)
    (hv : ∀ i v h nw, i < n → P i v → (∀ b o, h₀.get? b = some o → h.get? b = some o) → News h₀ L h nw → S nw → ∃ T x y, v = .ref T ∧ h.IsTuple T #[x, y] ∧ ∀ m', m' b = some y → (b ≠ a → m' a = some x) → B v m') :
    Asg prog w A h₀ L m env (.Tuple [.Name a pa, .Name b pb] kk tp) scope cl S P B n := by
  intro i C v s m₁ nw E' hi hP hn _ F N hS
  obtain ⟨T, x, y, rfl, ht, hB⟩ := hv i v s.heap nw hi hP F.keep N hS
  refine wpAny_assign_Tuple hh ht rfl rfl fun h₁ he₁ => ?_
  have hL : C ≠ s.heap.objs.size := Nat.ne_of_lt hn.lt
  have hn₁ : h₁.Ns C m₁ := hn.at' fun o e => he₁ _ o hL e
  have up₁ : ∀ c o, s.heap.get? c = some o → h₁.get? c = some o := fun c o e => he₁ c o (Nat.ne_of_lt (Heap.lt_size e)) e
  have hp : ((compEnvC scope cl C env).scope.kind == .class || ((compEnvC scope cl C env).scope.kind == .module && (compEnvC scope cl C env).locals != (compEnvC scope cl C env).globals)) = false := by simp [compEnvC, relabel, hkind]
  refine assignInOrder_cons ?_
  refine wpAny_assign_Name (wpAny_storeName_local (lookup_relabel_local ha) hn₁ (fun h₂ hn₂ hs₂ => ?_) hp)
  refine assignInOrder_cons ?_
  refine wpAny_assign_Name (wpAny_storeName_local (lookup_relabel_local hb) hn₂ (fun h₃ hn₃ hs₃ => ?_) hp)
  refine assignInOrder_nil ?_
  exact ⟨h₃, _, _, rfl, hn₃, hB _ (by simp) (fun h => by simp [Ne.symm h]), fun c o hc e => hs₃.extBut c o hc (hs₂.extBut c o hc (up₁ c o e))⟩

theorem asg_three {a b c : Str} {pa pb pc tp : Pos} {kk : Nat} {scope : Scope} {cl : List (Str × Addr)} {S : Led → Prop} {P : Nat → Value → Prop} {n : Nat} {B : Value → (Str → Option Value) → Prop} (hh : A.handled = none) (hkind : scope.kind = .function) (ha : scope.names.lookup a = some .local) (hb : scope.names.lookup b = some .local) (hc : scope.names.lookup c = some .local)
    (hab : a ≠ b) (hac : a ≠ c) (hbc : b ≠ c)
    (hv : ∀ i v h nw, i < n → P i v → (∀ b o, h₀.get? b = some o → h.get? b = some o) → News h₀ L h nw → S nw → ∃ T x y z, v = .ref T ∧ h.IsTuple T #[x, y, z] ∧ ∀ m', m' a = some x → m' b = some y → m' c = some z → B v m') :
    Asg prog w A h₀ L m env (.Tuple [.Name a pa, .Name b pb, .Name c pc] kk tp) scope cl S P B n := by
  intro i C v s m₁ nw E' hi hP hn _ F N hS
  obtain ⟨T, x, y, z, rfl, ht, hB⟩ := hv i v s.heap nw hi hP F.keep N hS
  refine wpAny_assign_Tuple hh ht rfl rfl fun h₁ he₁ => ?_
  have hL : C ≠ s.heap.objs.size := Nat.ne_of_lt hn.lt
  have hn₁ : h₁.Ns C m₁ := hn.at' fun o e => he₁ _ o hL e
  have up₁ : ∀ c o, s.heap.get? c = some o → h₁.get? c = some o := fun c o e => he₁ c o (Nat.ne_of_lt (Heap.lt_size e)) e
  have hp : ((compEnvC scope cl C env).scope.kind == .class || ((compEnvC scope cl C env).scope.kind == .module && (compEnvC scope cl C env).locals != (compEnvC scope cl C env).globals)) = false := by simp [compEnvC, relabel, hkind]
  refine assignInOrder_cons ?_
  refine wpAny_assign_Name (wpAny_storeName_local (lookup_relabel_local ha) hn₁ (fun h₂ hn₂ hs₂ => ?_) hp)
  refine assignInOrder_cons ?_
  refine wpAny_assign_Name (wpAny_storeName_local (lookup_relabel_local hb) hn₂ (fun h₃ hn₃ hs₃ => ?_) hp)
  refine assignInOrder_cons ?_
  refine wpAny_assign_Name (wpAny_storeName_local (lookup_relabel_local hc) hn₃ (fun h₄ hn₄ hs₄ => ?_) hp)
  refine assignInOrder_nil ?_
  exact ⟨h₄, _, _, rfl, hn₄, hB _ (by simp [hab, hac]) (by simp [hbc]) (by simp), fun c o hc e => hs₄.extBut c o hc (hs₃.extBut c o hc (hs₂.extBut c o hc (up₁ c o e)))⟩
end
end Mine
end

section
open PySem PySem.Spec PySem.W PyProof.Rows PySem.Calls PyProof.Rows.LCg
namespace Mine
noncomputable abbrev SK (prog : Program) (w : World) : KeyKind prog w Str := PySem.strKind prog w
noncomputable abbrev TKd (prog : Program) (w : World) : HeapKind prog w (List Str) := tupleKind (SK prog w)
noncomputable abbrev Ent := List Str × Addr × Value
noncomputable def putAll (zs : List Ent) (xs : List Ent) : List Ent := zs.foldl (fun xs z => storedH xs z.1 z.2.1 z.2.2) xs

theorem entry_update_loop : entryFor table "dict.update.loop" = some Builtin.«dict.update.loop» := entryFor_of_tree (by kernel_rfl)
theorem plain_update_loop : plainId "dict.update.loop" = true := by decide +kernel
theorem keys_missing : typeLookup (.type "list") "keys" = pure none := am_miss_of_fast (by kernel_rfl)

section
variable {prog : Program} {w : World} {A : Around} {E : Value → Shared → Prop} {s : Shared}

theorem noKeys {a : Addr} {xs : Array Value} {k : Nat} {sl : Array (Option Value)} {Q : Option Value → Shared → Prop} (hx : s.heap.get? a = some { cls := .type "list", dict := none, data := .seq xs k, slots := sl }) (hA : A.handled = none)
    (h : ∀ h' tk, s.heap.StaysIn h' → Q none { s with heap := h', toks := tk }) : wpAny (model prog w) A (getAttr? (.ref a) "keys") Q E s := by
  obtain ⟨hp, g, d, tk, os⟩ := s
  have hT : ∀ tk', (⟨hp, g, d, tk', os⟩ : Shared).TypeIs (.ref a) "list" := fun _ => ⟨_, hx, rfl⟩
  have f1 := sub_AttributeError
  have f3 := F.slot_list_getattribute.lookup
  have f4 := F.slot_list_getattribute.bind (.ref a)
  have f5 := am_list_getattr_none
  unfold getAttr? getAttrBy? getAttrBy
  repeat (any_goals (first | assumption | exact hT _ | ((with_reducible show wpAny _ _ (call (Value.builtin "list.__getattribute__") _ _) _ _ _); refine call_meets F.slot_list_getattribute (hT _) am_entry_list_getattribute (F.args_list_getattribute_2 _ _) (meets_getattribute_miss_list a xs k sl _ _ keys_missing (by decide +kernel) (by size_fits)) ⟨hx, hA, fun h' tk' e hx' => ?_⟩) | wp_step))
  obtain ⟨t', u', he⟩ := hx'.there
  show wpAny _ _ (getattributeRaised _ _ _ _ _ _ _) _ _ _
  unfold getattributeRaised
  repeat (any_goals (first | assumption | wp_step))
  exact h _ _ hx'.keeps

/-- pairs of a tuple of strs and a value -/
inductive PairsAt (prog : Program) (w : World) (h : Heap) : List Value → List Ent → Prop
  | nil : PairsAt prog w h [] []
  | cons {T : Addr} {z : Ent} {ys : List Value} {zs : List Ent} : h.IsTuple T #[.ref z.2.1, z.2.2] → IsTupleKey (SK prog w) h z.1 z.2.1 → PairsAt prog w h ys zs → PairsAt prog w h (.ref T :: ys) (z :: zs)
theorem PairsAt.length {h : Heap} {ys : List Value} {zs : List Ent} (x : PairsAt prog w h ys zs) : ys.length = zs.length := by
  induction x with
  | nil => rfl
  | cons _ _ _ ih => simp [ih]
theorem isTupleKey_mono {h h' : Heap} {ks : List Str} {a : Addr} (x : IsTupleKey (SK prog w) h ks a) (k : h.StaysIn h') : IsTupleKey (SK prog w) h' ks a := let ⟨o, its, n, ho, r⟩ := x; ⟨o, its, n, k _ _ ho, r⟩
theorem isTuple_mono {h h' : Heap} {a : Addr} {its : Array Value} (x : h.IsTuple a its) (k : h.StaysIn h') : h'.IsTuple a its := let ⟨o, ho, r⟩ := x; ⟨o, k _ _ ho, r⟩

theorem storedH_length (xs : List Ent) (k : List Str) (a : Addr) (v : Value) : (storedH xs k a v).length ≤ xs.length + 1 := by
  unfold storedH
  split <;> simp

theorem pairItems_tuple {T : Addr} {x y : Value} {Q : List Value → Shared → Prop} (h : s.heap.IsTuple T #[x, y]) (hQ : Q [x, y] s) : wpAny (model prog w) A (Builtin.Dict.pairItems (.ref T)) Q E s := by
  obtain ⟨o, ho, hc, n, hd⟩ := h
  unfold Builtin.Dict.pairItems
  refine wpAny_bind (wpAny_typeOf (show s.TypeIs (.ref T) "tuple" from ⟨o, ho, hc⟩) ?_)
  rw [if_pos (by decide)]
  refine wpAny_bind (wpAny_seqItems ho hd (wpAny_pure ?_))
  exact hQ

theorem update_loop {h0 : Heap} {d I l : Addr} {items : Array Value} {R : Result → Shared → Prop} (hh : A.handled = none) (hu : A.units + 4 < cLine) (hIl : l ≠ I) (hdI : d ≠ I) (hdl : d ≠ l) (hd0 : h0.get? d = none) (hI0 : h0.get? I = none) :
    ∀ (zs : List Ent) (i : Nat) (xs : List Ent) (s : Shared) (j : Int) (t : Tok), i + zs.length = items.size → s.heap.IsListIter I l i → s.heap.IsList l items → PairsAt prog w h0 (items.toList.drop i) zs → h0.StaysIn s.heap → s.heap.DictOfH (TKd prog w) d xs → xs.length + zs.length ≤ sizeLine →
      (∀ h' tk, h'.DictOfH (TKd prog w) d (putAll zs xs) → (∀ b o, b ≠ d → b ≠ I → s.heap.get? b = some o → h'.get? b = some o) → R (.ok (.ret .none)) { s with heap := h', toks := tk }) →
      codeAny (model prog w) A (.builtin "dict.update.loop" ⟨[.ref d, .ref I, .int j t, .none], []⟩) R s := by
  intro zs
  have W := Walks.list (prog := prog) (w := w) (A := A.in1) hh I l hIl items
  induction zs with
  | nil =>
    intro i xs s j t hi hit hl hp hk hd hsz hR
    obtain rfl : i = items.size := by simpa using hi
    refine codeAny_builtin entry_update_loop ?_
    rw [Around.under_plainId plain_update_loop _]
    show wpAny _ A.in1 (pyNext (.ref I) >>= _) _ _ s
    refine wpAny_bind (W.done s _ _ ⟨hit, hl⟩ fun h' tk hk' => ?_)
    show wpAny _ A.in1 (Builtin.Dict.addKeywords d [] >>= _) _ _ _
    refine wpAny_bind (wpAny_pure (wpAny_pure (hR h' tk ?_ fun b o _ hb e => hk' b o (by simpa using hb) e)))
    obtain ⟨o, es, ep, ho, r1, r2, r3, r4, r5⟩ := hd
    refine ⟨o, es, ep, hk' _ _ (by simpa using hdI) ho, r1, r2, r3, fun x hx => ?_, r5⟩
    obtain ⟨ox, its, n, hox, q1, q2⟩ := r4 x hx
    refine ⟨ox, its, n, hk' _ _ (fun hm => ?_) hox, q1, q2⟩
    obtain ⟨oI, hoI, hcI, _⟩ := hit
    rw [List.mem_singleton.mp hm, hoI] at hox
    cases hox
    rw [hcI] at q1
    exact absurd q1 (by decide)
  | cons z zs ih =>
    intro i xs s j t hi hit hl hp hk hd hsz hR
    rw [List.length_cons] at hi hsz
    have hlt : i < items.size := by omega
    have hdrop : items.toList.drop i = items[i] :: items.toList.drop (i + 1) := by
      rw [List.drop_eq_getElem_cons (by simpa using hlt)]; simp
    rw [hdrop] at hp
    generalize hv : items[i] = v at hp
    have hat : items[i]? = some v := by rw [Array.getElem?_eq_getElem hlt, hv]
    cases hp with
    | @cons T _ _ _ hT hK hp =>
      refine codeAny_builtin entry_update_loop ?_
      rw [Around.under_plainId plain_update_loop _]
      show wpAny _ A.in1 (pyNext (.ref I) >>= _) _ _ s
      refine wpAny_bind (W.item i s _ _ hlt ⟨hit, hl⟩ fun v' h' tk hP hst' hk' => ?_)
      rw [hat] at hP
      obtain rfl := Option.some.inj hP
      have hk1 : h0.StaysIn h' := fun b o e => hk' b o (fun hm => by rw [List.mem_singleton.mp hm, hI0] at e; cases e) (hk b o e)
      have hd' : h'.DictOfH (TKd prog w) d xs := by
        obtain ⟨o, es, ep, ho, r1, r2, r3, r4, r5⟩ := hd
        refine ⟨o, es, ep, hk' _ _ (by simpa using hdI) ho, r1, r2, r3, fun x hx => ?_, r5⟩
        obtain ⟨ox, its, n, hox, q1, q2⟩ := r4 x hx
        refine ⟨ox, its, n, hk' _ _ (fun hm => ?_) hox, q1, q2⟩
        obtain ⟨oI, hoI, hcI, _⟩ := hit
        rw [List.mem_singleton.mp hm, hoI] at hox
        cases hox
        rw [hcI] at q1
        exact absurd q1 (by decide)
      dsimp only
      refine wpAny_bind (wpAny_holding (wpAny_bind (wpAny_tryCatch (pairItems_tuple (isTuple_mono hT hk1) ?_))))
      dsimp only
      refine wpAny_holding (wpAny_dictSet_heap (knd := TKd prog w) (show A.in1.units < cLine from by show A.units + 1 < cLine; omega) (isTupleKey_mono hK hk1) hd' (fun h'' hd'' hs => ?_) (by omega))
      refine wpAny_pure ⟨plainId_quiet plain_update_loop _, ?_⟩
      have hsI : ∀ b o, b ≠ d → h'.get? b = some o → h''.get? b = some o := fun b o hb e => (hs.2 b hb).trans e
      refine ih (i + 1) _ _ _ _ (by omega) ?_ ?_ hp (fun b o e => hsI b o (fun q => by rw [q, hd0] at e; cases e) (hk1 b o e)) hd'' (by have := storedH_length xs z.1 z.2.1 z.2.2; omega) (fun h3 tk3 hd3 hk3 => ?_)
      · obtain ⟨oI, hoI, r⟩ := hst'.1
        exact ⟨oI, hsI _ _ (Ne.symm hdI) hoI, r⟩
      · obtain ⟨ol, hol, r⟩ := hst'.2
        exact ⟨ol, hsI _ _ (Ne.symm hdl) hol, r⟩
      · exact hR h3 tk3 hd3 fun b o hb1 hb2 e => hk3 b o hb1 hb2 (hsI b o hb1 (hk' b o (by simpa using hb2) e))
end
end Mine
end

section
open PySem PySem.Spec PySem.W PyProof.Rows PySem.Calls PyProof.Rows.LCg
namespace Mine
section
variable {prog : Program} {w : World} {A : Around} {E : Value → Shared → Prop} {s : Shared}

theorem dict_pairs {l : Addr} {ys : List Value} {k : Nat} {sl : Array (Option Value)} {zs : List Ent} {Q : Value → Shared → Prop} (hh : A.handled = none) (hu : A.units + 10 < cLine)
    (hx : s.heap.get? l = some { cls := .type "list", dict := none, data := .seq ys.toArray k, slots := sl }) (hp : PairsAt prog w s.heap ys zs) (hsz : zs.length ≤ sizeLine)
    (h : ∀ h' tk, h'.DictOfH (TKd prog w) s.heap.objs.size (putAll zs []) → s.heap.StaysIn h' → Q (.ref s.heap.objs.size) { s with heap := h', toks := tk }) :
    wpAny (model prog w) A (call (.type "dict") [.ref l]) Q E s := by
  refine callType_codes (Q₁ := fun obj s₁ => obj = .ref s.heap.objs.size ∧ s₁ = { s with heap := s.heap.push { cls := .type "dict", data := .dict #[] } }) F.kt_called_dict (F.kt_typeCall_dict_1 _) F.entry_dict_init (kt_code_dict_new _ ⟨rfl, rfl⟩) ?_
  rintro obj s₁ ⟨rfl, rfl⟩
  have hnew : (s.heap.push { cls := .type "dict", data := .dict #[] }).DictOfH (TKd prog w) s.heap.objs.size [] := Heap.DictOfH.new s.heap
  have up : s.heap.StaysIn (s.heap.push { cls := .type "dict", data := .dict #[] }) := fun b o e => Heap.get?_push_of_some _ e
  have hlt : @LT.lt Nat _ l s.heap.objs.size := Heap.lt_size hx
  have hsize : (s.heap.push { cls := .type "dict", data := .dict #[] }).objs.size = s.heap.objs.size + 1 := Heap.size_push ..
  have hd0 : s.heap.get? s.heap.objs.size = none := by
    cases e : s.heap.get? s.heap.objs.size with
    | none => rfl
    | some o => exact absurd (Heap.lt_size e) (Nat.lt_irrefl _)
  generalize hH : s.heap.push { cls := .type "dict", data := .dict #[] } = H at *
  generalize hD : s.heap.objs.size = D at *
  refine ⟨hnew.typeIs, F.args_dict_init_2 _ _, ?_⟩
  unfold Builtin.«dict.__init__»
  refine wpAny_bind ?_
  unfold Builtin.Dict.selfAndRest
  refine wpAny_bind (wpAny_notOrdered_dict hnew.typeIs ?_)
  show wpAny _ _ (pure (D, [Value.ref l])) _ _ _
  refine wpAny_pure ?_
  show wpAny _ _ (Builtin.Dict.updateFrom "dict.__init__" D (.ref l) [] .none) _ _ _
  unfold Builtin.Dict.updateFrom
  refine wpAny_bind (wpAny_typeOf (show Shared.TypeIs _ (.ref l) "list" from ⟨_, up _ _ hx, rfl⟩) ?_)
  rw [if_pos (by decide)]
  refine wpAny_bind (noKeys (up _ _ hx) hh fun h1 tk1 k1 => ?_)
  rw [if_pos (by rfl)]
  refine wpAny_bind (wpAny_rule ?_)
  have k01 : s.heap.StaysIn h1 := fun b o e => k1 b o (up b o e)
  refine wpAny_bind (wpAny_pyIter_list (show Heap.IsList h1 l ys.toArray from ⟨_, k01 _ _ hx, rfl, k, rfl⟩) ?_)
  have up2 : h1.StaysIn (h1.push { cls := .type "list_iterator", data := .fields #[.ref l, .int 0 0] }) := fun b o e => Heap.get?_push_of_some _ e
  have hge : D < h1.objs.size := by
    obtain ⟨_, _, _, e, _⟩ := hnew
    exact Heap.lt_size (k1 _ _ e)
  have hdk : (h1.push { cls := .type "list_iterator", data := .fields #[.ref l, .int 0 0] }).DictOfH (TKd prog w) D [] := by
    obtain ⟨o, es, ep, e, r1, r2, r3, _, r5⟩ := hnew
    exact ⟨o, es, ep, up2 _ _ (k1 _ _ e), r1, r2, r3, fun _ hx => (nomatch hx), r5⟩
  have hI0 : s.heap.get? h1.objs.size = none := by
    cases e : s.heap.get? h1.objs.size with
    | none => rfl
    | some o => exact absurd (Heap.lt_size (k01 _ _ e)) (Nat.lt_irrefl _)
  refine wpAny_pure ⟨plainId_quiet plain_update_loop _, ?_⟩
  refine update_loop (A := A.in1) (h0 := s.heap) (items := ys.toArray) hh (by show A.units + 1 + 4 < cLine; omega) (by show @Ne Nat l _; omega) (by show @Ne Nat D _; omega) (by show @Ne Nat D l; omega) hd0 hI0 zs 0 [] { s with heap := h1.push { cls := .type "list_iterator", data := .fields #[.ref l, .int 0 0] }, toks := tk1 } 0 0 ?_ ⟨_, Heap.get?_push_size _ rfl, rfl, rfl⟩ ⟨_, up2 _ _ (k01 _ _ hx), rfl, k, rfl⟩ (by simpa using hp) (fun b o e => up2 _ _ (k01 _ _ e)) hdk (by simpa using hsz) ?_
  · simp [hp.length]
  · intro h2 tk2 hd2 hk2
    refine ⟨rfl, h h2 tk2 hd2 fun b o e => ?_⟩
    have hb : @LT.lt Nat _ b D := hD ▸ Heap.lt_size e
    exact hk2 b o (by show @Ne Nat b D; omega) (by show @Ne Nat b _; omega) (up2 _ _ (k01 _ _ e))
end
end Mine
end

section
open PySem PySem.Spec PySem.W PyProof.Rows PySem.Calls PyProof.Rows.LCg
namespace Mine
/-- a dict, whatever its keys -/
noncomputable def DAt (h : Heap) (d : Addr) (es : Array DictEntry) (ep : Nat) : Prop := ∃ o, h.get? d = some o ∧ o.ExactDict ∧ o.data = .dict es ep
section
variable {prog : Program} {w : World} {A : Around} {E : Value → Shared → Prop} {s : Shared}
theorem DAt.typeIs {d : Addr} {es : Array DictEntry} {ep : Nat} (x : DAt s.heap d es ep) : s.TypeIs (.ref d) "dict" := let ⟨o, ho, hc, _⟩ := x; ⟨o, ho, hc.1⟩

theorem iter_any {d : Addr} {es : Array DictEntry} {ep : Nat} {Q : Value → Shared → Prop} (hd : (d == sysModules) = false) (hm : DAt s.heap d es ep)
    (hQ : Q (.ref s.heap.objs.size) { s with heap := s.heap.push { cls := .type "dict_keyiterator", data := .fields #[.ref d, .int 0 0, .int es.size 0, .int ep 0] } }) :
    wpAny (model prog w) A (pyIter (.ref d)) Q E s := by
  have hT := hm.typeIs
  obtain ⟨o, ho, hc, hdat⟩ := hm
  refine wpAny_pyIter_slot hT F.slot_dict_iter (wpAny_call_entry F.slot_dict_iter hT F.entry_dict_iter ?_ (F.args_dict_iter_1 _))
  unfold Builtin.«dict.__iter__»
  refine wpAny_bind ?_
  unfold Builtin.Dict.dictSlotNone
  refine wpAny_bind (wpAny_notOrdered_dict hT ?_)
  show wpAny _ _ (pure (Value.ref d)) _ _ s
  refine wpAny_pure ?_
  show wpAny _ _ (Builtin.Dict.showsAll d >>= _) _ _ s
  unfold Builtin.Dict.showsAll
  rw [if_neg (by rw [hd]; exact Bool.false_ne_true)]
  refine wpAny_bind (wpAny_pure (wpAny_bind (wpAny_dictEntries ho hdat (wpAny_bind (wpAny_dictEpoch ho hdat ?_)))))
  exact wpAny_bind (wpAny_newObj_type (wpAny_pure ⟨_, rfl, "dict_keyiterator", _, ⟨_, Heap.get?_push_size _ rfl, rfl⟩, F.slot_dict_keyiterator_next.lookup, hQ⟩))

theorem next_any {it d : Addr} {i ep : Nat} {es : Array DictEntry} {e : DictEntry} {Q : Option Value → Shared → Prop} (hit : s.heap.IsKeyIter it d i es.size ep) (hm : DAt s.heap d es ep) (hx : es[i]? = some e)
    (hQ : ∀ h', h'.IsKeyIter it d (i + 1) es.size ep → Heap.SameBut it s.heap h' → Q (some e.key) { s with heap := h' }) : wpAny (model prog w) A (pyNext (.ref it)) Q E s := by
  obtain ⟨o, ho, hc, hd⟩ := id hit
  obtain ⟨od, hod, hcd, hdd⟩ := hm
  unfold pyNext
  refine wpAny_bind (wpAny_attempt (wpAny_callSpecial?_slot (name := Str.ofString "__next__") hit.typeIs F.slot_dict_keyiterator_next
    (wpAny_call_entry F.slot_dict_keyiterator_next hit.typeIs F.entry_dict_keyiterator_next ?_ (F.args_dict_keyiterator_next_1 _))))
  refine wpAny_bind (wpAny_pure (wpAny_bind (wpAny_bind ?_)))
  first | refine wpAny_bind (wpAny_typeNameOfWhole_keyiter hit.typeIs (wpAny_pure ?_)) | refine wpAny_bind (wpAny_typeNameOf_keyiter hit.typeIs (wpAny_pure ?_))
  refine wpAny_bind (wpAny_fieldsOf ho hd ?_)
  have hown : Builtin.Dict_items.ownsTuple "dict_keyiterator" = false := by decide
  simp only [hown, Bool.false_eq_true, if_false]
  show wpAny _ _ (if (Value.ref d == Value.none) = true then _ else _) _ _ s
  rw [if_neg (show ¬ ((Value.ref d == Value.none) = true) from Bool.false_ne_true)]
  refine wpAny_bind (wpAny_pure (wpAny_bind (wpAny_dictEntries hod hdd ?_)))
  rw [if_neg (by simp)]
  refine wpAny_bind (wpAny_pure (wpAny_bind (wpAny_dictEpoch hod hdd ?_)))
  rw [if_neg (by simp)]
  refine wpAny_pure ?_
  simp only [show ¬ ((i : Int) < 0) from by omega, if_false, Int.toNat_natCast, hx]
  refine wpAny_bind ?_
  first | refine wpAny_bind (wpAny_typeNameOfWhole_keyiter hit.typeIs (wpAny_pure ?_)) | refine wpAny_bind (wpAny_typeNameOf_keyiter hit.typeIs (wpAny_pure ?_))
  refine wpAny_bind (wpAny_isOneOf_keyiter hit.typeIs ?_)
  show wpAny _ _ (setField (.ref it) 1 (rawInt ((i : Int) + 1)) >>= _) _ _ s
  refine wpAny_bind (wpAny_setField ho hd (by simp) ?_)
  have hit' : (s.heap.update it (Obj.mapFields (·.setIfInBounds 1 (rawInt ((i : Int) + 1))))).IsKeyIter it d (i + 1) es.size ep :=
    ⟨_, Heap.get?_update_self _ ho (Obj.isFreed_of_fields (Obj.data_mapFields hd _)), (Obj.cls_mapFields ..).trans hc, by rw [Obj.data_mapFields hd]; simp [rawInt]⟩
  refine wpAny_bind (wpAny_holding ?_)
  refine wpAny_bind (wpAny_isOneOf_keyiter (s := { s with heap := s.heap.update it (Obj.mapFields (·.setIfInBounds 1 (rawInt ((i : Int) + 1)))) }) hit'.typeIs ?_)
  exact wpAny_pure (wpAny_pure ⟨_, rfl, wpAny_pure (hQ _ hit' (Heap.SameBut.update ..))⟩)

theorem next_end {it d : Addr} {i ep : Nat} {es : Array DictEntry} {Q : Option Value → Shared → Prop} (hh : A.handled = none) (hit : s.heap.IsKeyIter it d i es.size ep) (hm : DAt s.heap d es ep) (hge : es.size ≤ i)
    (hQ : ∀ h', Heap.ExtBut it s.heap h' → Q none { s with heap := h' }) : wpAny (model prog w) A (pyNext (.ref it)) Q E s := by
  obtain ⟨o, ho, hc, hd⟩ := id hit
  obtain ⟨od, hod, hcd, hdd⟩ := hm
  unfold pyNext
  refine wpAny_bind (wpAny_attempt (wpAny_callSpecial?_slot (name := Str.ofString "__next__") hit.typeIs F.slot_dict_keyiterator_next
    (wpAny_call_entry F.slot_dict_keyiterator_next hit.typeIs F.entry_dict_keyiterator_next ?_ (F.args_dict_keyiterator_next_1 _))))
  refine wpAny_bind (wpAny_pure (wpAny_bind (wpAny_bind ?_)))
  first | refine wpAny_bind (wpAny_typeNameOfWhole_keyiter hit.typeIs (wpAny_pure ?_)) | refine wpAny_bind (wpAny_typeNameOf_keyiter hit.typeIs (wpAny_pure ?_))
  refine wpAny_bind (wpAny_fieldsOf ho hd ?_)
  have hown : Builtin.Dict_items.ownsTuple "dict_keyiterator" = false := by decide
  simp only [hown, Bool.false_eq_true, if_false]
  show wpAny _ _ (if (Value.ref d == Value.none) = true then _ else _) _ _ s
  rw [if_neg (show ¬ ((Value.ref d == Value.none) = true) from Bool.false_ne_true)]
  refine wpAny_bind (wpAny_pure (wpAny_bind (wpAny_dictEntries hod hdd ?_)))
  rw [if_neg (by simp)]
  refine wpAny_bind (wpAny_pure (wpAny_bind (wpAny_dictEpoch hod hdd ?_)))
  rw [if_neg (by simp)]
  refine wpAny_pure ?_
  simp only [show ¬ ((i : Int) < 0) from by omega, if_false, Int.toNat_natCast, Array.getElem?_eq_none hge]
  refine wpAny_bind ?_
  first | refine wpAny_bind (wpAny_typeNameOfWhole_keyiter hit.typeIs (wpAny_pure ?_)) | refine wpAny_bind (wpAny_typeNameOf_keyiter hit.typeIs (wpAny_pure ?_))
  show wpAny _ _ (setField (.ref it) 0 .none >>= _) _ _ s
  refine wpAny_bind (wpAny_setField ho hd (by simp) ?_)
  show wpAny _ _ (newExc (.type "StopIteration") [] >>= _) _ _ _
  refine wpAny_bind ?_
  simp only [newExc, newTuple]
  refine wpAny_bind (wpAny_newObj_type ?_ (by size_fits))
  refine wpAny_bind (m := firstArgMember _ _) (wpAny_of_eq (a := Value.none) (by first | rfl | (simp only [firstArgMember]; rfl)) ?_)
  refine wpAny_newObj_type ?_ (by size_fits)
  simp only [raiseNew]
  refine wpAny_bind (wpAny_handled ?_)
  rw [show A.in1.handled = none from hh]
  refine wpAny_bind (wpAny_pure (wpAny_throw ?_))
  refine wpAny_bind (wpAny_isInstance (T := "StopIteration") (b := true) ⟨_, Heap.get?_push_size _ rfl, rfl⟩ isSubtype_stop ?_)
  exact wpAny_pure (hQ _ (((Heap.SameBut.update ..).extBut.push _).push _))

theorem DAt.keep {h h' : Heap} {d : Addr} {es : Array DictEntry} {ep : Nat} (x : DAt h d es ep) (k : ∀ o, h.get? d = some o → h'.get? d = some o) : DAt h' d es ep := let ⟨o, ho, r⟩ := x; ⟨o, k _ ho, r⟩

theorem walks_any (hh : A.handled = none) (I d : Addr) (hne : d ≠ I) (es : Array DictEntry) (ep : Nat) :
    Walks prog w A I [I, d] [I] es.size (fun i v => ∃ e, es[i]? = some e ∧ v = e.key) (fun i h => h.IsKeyIter I d i es.size ep ∧ DAt h d es ep) where
  sub := fun b hb => by simp at hb; simp [hb]
  frame := fun _ _ _ st hk => ⟨st.1.at fun o e => hk I (by simp) o e, st.2.keep fun o e => hk d (by simp) o e⟩
  item := fun i s Q E hi st hQ => next_any st.1 st.2 (Array.getElem?_eq_getElem hi) fun h' hit' hs => hQ _ h' s.toks ⟨_, Array.getElem?_eq_getElem hi, rfl⟩ ⟨hit', st.2.keep fun o e => (hs.2 _ hne).trans e⟩ fun b o hb e => (hs.2 b (by simpa using hb)).trans e
  done := fun s Q E st hQ => next_end hh st.1 st.2 (Nat.le_refl _) fun h' he => hQ h' s.toks fun b o hb e => he b o (by simpa using hb) e
  self := fun _ _ _ _ st hQ => wpAny_pyIter_keyiter st.1 hQ

theorem src_any {d : Addr} {es : Array DictEntry} {ep : Nat} (lo : (d == sysModules) = false) : KdlSrc prog w "dict" d d es.size (fun i v => ∃ e, es[i]? = some e ∧ v = e.key) (fun h => DAt h d es ep) where
  type := fun _ hm => hm.typeIs
  there := fun _ hm => let ⟨_, ho, _⟩ := hm; ⟨Heap.lt_size ho, Heap.lt_size ho⟩
  keep := fun _ _ hm hk => hm.keep fun o e => hk d (.inl rfl) o e
  notList := by decide
  notTuple := by decide
  hint := fun _ _ _ _ hm hq => kdl_hint_dict hm.typeIs hq
  iter := fun _ s hh hm => ⟨_, _, (fun _ _ hq => iter_any lo hm hq), walks_any hh _ d (by obtain ⟨_, ho, _⟩ := hm; exact Nat.ne_of_lt (Heap.lt_size ho)) es ep, ⟨⟨_, Heap.get?_push_size _ rfl, rfl, rfl⟩, hm.keep fun o e => Heap.get?_push_of_some _ e⟩⟩

theorem keys_are {es : Array DictEntry} {vs : List Value} (hl : vs.length = es.size) (hv : ∀ (j : Nat) v, vs[j]? = some v → ∃ e, es[j]? = some e ∧ v = e.key) : vs = es.toList.map (·.key) := by
  apply List.ext_getElem?
  intro j
  cases h : vs[j]? with
  | none =>
    have : es.size ≤ j := by rw [← hl]; simpa using h
    simp [this]
  | some v =>
    obtain ⟨e, he, rfl⟩ := hv j v h
    simp [he]

/-- list(d) -/
theorem list_dict {h₀ : Heap} {L : Addr} {m : Str → Option Value} {news : Led} {d : Addr} {o : Obj} {es : Array DictEntry} {ep : Nat} {Q : Value → Shared → Prop} (hh : A.handled = none) (F : Fr h₀ L s.heap m) (N : News h₀ L s.heap news) (lo : (d == sysModules) = false)
    (hm : (d, o) ∈ news) (hc : o.ExactDict) (hd : o.data = .dict es ep) (hn : es.size ≤ sizeLine)
    (h : ∀ (D : Addr) c h' tk, Fr h₀ L h' m → News h₀ L h' ((D, listOf (es.toList.map (·.key)).toArray c) :: news) → (∀ q ∈ news, q.1 < D) → Q (.ref D) { s with heap := h', toks := tk }) :
    wpAny (model prog w) A (call (.type "list") [.ref d]) Q E s :=
  kdl_N (src_any lo) hh F N ⟨o, (N _ hm).1, hc, hd⟩ hn fun D c h' tk vs F' N' lt hl hv => by
    obtain rfl := keys_are hl hv
    exact h D c h' tk F' N' lt

/-- sorted(d), up to the sort -/
theorem sorted_dict {h₀ : Heap} {L : Addr} {m : Str → Option Value} {news : Led} {d : Addr} {o : Obj} {es : Array DictEntry} {ep : Nat} {Q : Value → Shared → Prop} (hh : A.handled = none) (F : Fr h₀ L s.heap m) (N : News h₀ L s.heap news) (lo : (d == sysModules) = false)
    (hm : (d, o) ∈ news) (hc : o.ExactDict) (hd : o.data = .dict es ep) (hn : es.size ≤ sizeLine)
    (h : ∀ (D : Addr) h' tk, Fr h₀ L h' m → News h₀ L h' ((D, listOf (es.toList.map (·.key)).toArray 0) :: news) → (∀ q ∈ news, q.1 < D) →
      wpAny (model prog w) A.in1 (call (.builtin "list.sort") [.ref D]) (fun _ s' => Q (.ref D) s') E { s with heap := h', toks := tk }) :
    wpAny (model prog w) A (call (.builtin "sorted") [.ref d]) Q E s :=
  kdu_sorted (src_any lo) hh F N ⟨o, (N _ hm).1, hc, hd⟩ hn fun D h' tk vs F' N' lt hl hv => by
    obtain rfl := keys_are hl hv
    exact h D h' tk F' N' lt
end
end Mine
end

section
open PySem PySem.Spec PySem.W PyProof.Rows PySem.Calls PyProof.Rows.LCg
namespace Mine
/-- the order of tuples of strs -/
noncomputable def lexLt : List Str → List Str → Bool
  | [], [] => false
  | [], _ :: _ => true
  | _ :: _, [] => false
  | a :: x, b :: y => if a = b then lexLt x y else decide (a.cps.toList < b.cps.toList)

noncomputable def evalT (n : Nat) (lt : Nat → Nat → Bool) : KasT (Array Nat) → Option (Array Nat)
  | .ret a => some a
  | .ask i j k => if i < n ∧ j < n ∧ i ≠ j then evalT n lt (k (lt i j)) else none

section
variable {prog : Program} {w : World} {A : Around} {E : Value → Shared → Prop} {s : Shared}

theorem evalT_wp {cmp : Nat → Nat → (Bool → Shared → Prop) → Shared → Prop} {n : Nat} {lt : Nat → Nat → Bool} {s : Shared} (ha : ∀ i j C, i < n → j < n → i ≠ j → C (lt i j) s → cmp i j C s) :
    ∀ (t : KasT (Array Nat)) (p : Array Nat), evalT n lt t = some p → ∀ {Q : Array Nat → Shared → Prop}, Q p s → t.kasWp cmp Q s
  | .ret a, p, h, Q, hq => by
    simp only [evalT, Option.some.injEq] at h
    subst h
    exact hq
  | .ask i j k, p, h, Q, hq => by
    simp only [evalT] at h
    split at h
    · rename_i hc
      exact ha i j _ hc.1 hc.2.1 hc.2.2 (evalT_wp ha (k (lt i j)) p h hq)
    · cases h

theorem tup_lt_tree {x y : List Str} {a b : Addr} {P : PySem.Fin → Shared → Prop} (hx : IsTupleKey (SK prog w) s.heap x a) (hy : IsTupleKey (SK prog w) s.heap y b) (h : P (.done (.ret (.bool (lexLt x y)))) s) :
    wpAny (model prog w) A (Builtin.«tuple.__lt__» ⟨[.ref a, .ref b], []⟩) P E s := by
  have hTb := hy.typeIs
  obtain ⟨oa, xs, na, hoa, _, hda, hia⟩ := hx
  obtain ⟨ob, ys, nb, hob, _, hdb, hib⟩ := hy
  show wpAny _ _ (isInstance (.ref b) (.type "tuple") >>= _) _ _ s
  refine wpAny_bind (wpAny_isInstance hTb isSubtype_tuple_tuple ?_)
  simp only [Bool.not_true, Bool.false_eq_true, if_false]
  refine wpAny_bind (wpAny_tupleItemsOf hoa hda ?_)
  refine wpAny_bind (wpAny_tupleItemsOf hob hdb ?_)
  refine wpAny_bind ?_
  refine wpAny_forIn_list _
    (fun rest r s' => r.1 = none ∧ s' = s ∧ ∃ x' y' xs' ys', rest = List.zip xs' ys' ∧ ItemsAre (SK prog w) x' xs' ∧ ItemsAre (SK prog w) y' ys' ∧ lexLt x' y' = lexLt x y ∧ decide (xs'.length < ys'.length) = decide (xs.size < ys.size))
    _ ?_ ?_ _ _ ⟨rfl, rfl, x, y, xs.toList, ys.toList, rfl, hia, hib, rfl, by simp⟩
  · rintro ⟨u, v⟩ rest r s' ⟨hr, rfl, x', y', xs', ys', hz, hx', hy', hdec, hlen⟩
    cases hx' with
    | nil => simp at hz
    | @cons k1 u' x'' xs'' h1 hx'' =>
      cases hy' with
      | nil => simp at hz
      | @cons k2 v' y'' ys'' h2 hy'' =>
        simp only [List.zip_cons_cons, List.cons.injEq, Prod.mk.injEq] at hz
        obtain ⟨⟨rfl, rfl⟩, rfl⟩ := hz
        refine wpAny_bind ((SK prog w).eqBool (a := k1) (b := k2) h1 h2 ?_)
        by_cases hk : k1 = k2
        · subst hk
          rw [decide_eq_true rfl]
          simp only [Bool.not_true, Bool.false_eq_true, if_false]
          refine wpAny_pure ⟨rfl, rfl, x'', y'', xs'', ys'', rfl, hx'', hy'', ?_, by simpa using hlen⟩
          rw [← hdec]
          simp [lexLt]
        · rw [decide_eq_false hk]
          simp only [Bool.not_false, if_true]
          have hf : lexLt x y = decide (k1.cps.toList < k2.cps.toList) := by rw [← hdec]; simp [lexLt, hk]
          rw [hf] at h
          obtain ⟨t, rfl⟩ := Value.isStrOf_shape h1
          obtain ⟨u, rfl⟩ := Value.isStrOf_shape h2
          refine wpAny_bind (wpAny_rule ?_)
          refine wpAny_bind (show wpAny (model prog w) A (richCompare .Lt _ _) _ E _ from lt_str ?_)
          exact wpAny_bind (wpAny_pure (wpAny_pure (wpAny_pure h)))
  · rintro ⟨r1, r2⟩ s' ⟨hr, rfl, x', y', xs', ys', hz, hx', hy', hdec, hlen⟩
    simp only at hr
    subst hr
    refine wpAny_pure ?_
    have hfin : decide (xs.size < ys.size) = lexLt x y := by
      rw [← hdec, ← hlen]
      cases hx' with
      | nil =>
        cases hy' with
        | nil => simp [lexLt]
        | cons _ _ => simp [lexLt]
      | cons _ _ =>
        cases hy' with
        | nil => simp [lexLt]
        | cons _ _ => simp at hz
    show P (.done (.ret (.bool (decide (xs.size < ys.size))))) s'
    rw [hfin]; exact h

theorem tup_lt {x y : List Str} {a b : Addr} {Q : Value → Shared → Prop} (hu : A.units < cLine) (hx : IsTupleKey (SK prog w) s.heap x a) (hy : IsTupleKey (SK prog w) s.heap y b) (h : Q (.bool (lexLt x y)) s) :
    wpAny (model prog w) A (compareOp .Lt (.ref a) (.ref b)) Q E s :=
  show wpAny (model prog w) A (richCompare .Lt (.ref a) (.ref b)) Q E s from
  wpAny_richCompare_same_room (op := .Lt) hx.typeIs hy.typeIs F.slot_tuple_lt
      (wpAny_call_entry F.slot_tuple_lt hx.typeIs F.entry_tuple_lt (tup_lt_tree hx hy ⟨_, rfl, (fun e => nomatch e), h⟩) (F.args_tuple_lt_2 _ _)) hu

/-- list.sort over a list of tuples whose order is known -/
theorem sort_tree {a : Addr} {vs : List Value} {n : Nat} {P : PySem.Fin → Shared → Prop} {κ : SortKind} {lt : Nat → Nat → Bool} {out : List Value} (ho : s.heap.get? a = some (seqObj "list" vs.toArray n)) (h64 : vs.length < 64)
    (hk : 2 ≤ vs.length → ∀ s' : Shared, (∀ b o, b ≠ a → s.heap.get? b = some o → s'.heap.get? b = some o) → ∀ {Q : SortKind → Shared → Prop}, Q κ s' → wpAny (model prog w) A (keyKind' vs.toArray) Q E s')
    (hl : ∀ s' : Shared, (∀ b o, b ≠ a → s.heap.get? b = some o → s'.heap.get? b = some o) → ∀ i j C, i < vs.length → j < vs.length → i ≠ j → C (lt i j) s' → kas_ask prog w A κ vs i j C s')
    (hs : if vs.length < 2 then out = vs else ∃ p, evalT vs.length lt (kas_sort vs.length) = some p ∧ out = p.toList.map fun i => vs.getD i Value.none)
    (hn : out.length = vs.length)
    (h : ∀ h' c, (∀ b o, b ≠ a → s.heap.get? b = some o → h'.get? b = some o) → h'.get? a = some (seqObj "list" out.toArray c) → P (.done (.ret .none)) { s with heap := h' }) :
    wpAny (model prog w) A (Builtin.«list.sort» ⟨[.ref a], []⟩) P E s := by
  rw [list_sort_plain]
  have ha : a < s.heap.objs.size := Heap.lt_size ho
  refine wpAny_bind (listItems_at ho rfl ?_)
  refine wpAny_bind (listUpdate_at ho rfl ?_ (by rw [List.size_toArray, sizeLine_eq]; omega) (Nat.zero_le _))
  obtain ⟨e1, ho1⟩ : ∃ e1, (s.heap.update a (Obj.mapSeq fun _ => (#[] : Array Value))).get? a = some (seqObj "list" #[] e1) := ⟨_, get?_update_seq ho (fun _ => #[])⟩
  refine wpAny_bind (seqEpoch_at ho1 rfl ?_)
  refine wpAny_bind (wpAny_newTuple ?_ (by show vs.length ≤ _; rw [sizeLine_eq]; omega))
  refine wpAny_bind (wpAny_newList ?_ (Nat.zero_le _))
  refine wpAny_holding ?_
  have keep : ∀ b o, b ≠ a → s.heap.get? b = some o → (((s.heap.update a (Obj.mapSeq fun _ => (#[] : Array Value))).push (seqObj "tuple" vs.toArray 0)).push (seqObj "list" #[] 0)).get? b = some o := fun b o hb e =>
    Heap.get?_push_of_some _ (Heap.get?_push_of_some _ (((Heap.SameBut.update s.heap a _).2 b hb).trans e))
  have ho6 : (((s.heap.update a (Obj.mapSeq fun _ => (#[] : Array Value))).push (seqObj "tuple" vs.toArray 0)).push (seqObj "list" #[] 0)).get? a = some (seqObj "list" #[] e1) :=
    Heap.get?_push_of_some _ (Heap.get?_push_of_some _ ho1)
  show wpAny (model prog w) A _ P E { s with heap := ((s.heap.update a (Obj.mapSeq fun _ => (#[] : Array Value))).push (seqObj "tuple" vs.toArray 0)).push (seqObj "list" #[] 0) }
  generalize ((s.heap.update a (Obj.mapSeq fun _ => (#[] : Array Value))).push (seqObj "tuple" vs.toArray 0)).push (seqObj "list" #[] 0) = H6 at keep ho6
  dsimp only
  have fin : ∀ st' : SortSt, (arrOf st').map (·.2) = out.toArray → failedOf st' = none →
      wpAny (model prog w) A (do
        let sorted := (arrOf st').map (·.2)
        let touched := (← seqEpoch a) != e1
        Builtin.List.listUpdate (.ref a) fun _ => sorted
        if let some e := failedOf st' then rule "list.sort.comparison-raised"; throw e
        if touched then rule "list.sort.modified"; raiseError "ValueError" "list modified during sort"
        ret .none) P E { s with heap := H6 } := by
    intro st' h1 h2
    have s2 := Heap.SameBut.update H6 a (Obj.mapSeq fun _ => out.toArray)
    obtain ⟨c2, hc2⟩ : ∃ c2, (H6.update a (Obj.mapSeq fun _ => out.toArray)).get? a = some (seqObj "list" out.toArray c2) := ⟨_, get?_update_seq ho6 fun _ => out.toArray⟩
    rw [h1]
    refine wpAny_bind (seqEpoch_at ho6 rfl ?_)
    refine wpAny_bind (listUpdate_at ho6 rfl ?_ (Nat.zero_le _) (by rw [List.size_toArray, hn, sizeLine_eq]; omega))
    rw [h2]
    simp only [bne_self_eq_false, Bool.false_eq_true, if_false]
    exact wpAny_pure (h _ c2 (fun b o hb e => (s2.2 b hb).trans (keep b o hb e)) hc2)
  by_cases h2 : vs.toArray.size < 2
  · rw [if_pos h2, if_pos h2]
    rw [if_pos (by simpa using h2)] at hs
    refine wpAny_bind (wpAny_pure ?_)
    rw [StateT.run_pure]
    refine wpAny_bind (wpAny_pure ?_)
    dsimp only
    refine fin _ ?_ rfl
    show (vs.toArray.zip vs.toArray).map (·.2) = out.toArray
    rw [hs]
    apply Array.ext_getElem?
    intro i
    by_cases hi : i < vs.length
    · simp [hi]
    · simp [Nat.le_of_not_lt hi]
  · rw [if_neg h2, if_neg h2]
    have h2' : 2 ≤ vs.length := by simpa using h2
    rw [if_neg (by omega)] at hs
    obtain ⟨p, hp, rfl⟩ := hs
    refine wpAny_bind (hk h2' _ keep ?_)
    refine wpAny_bind (wpAny_mono (kat_run (G := fun q s' => q = p ∧ s' = { s with heap := H6 }) (Q := fun st' s' => (arrOf st').map (·.2) = List.toArray (p.toList.map fun i => vs.getD i Value.none) ∧ failedOf st' = none ∧ s' = { s with heap := H6 }) rfl h2' h64 ?_ ?_) ?_ fun _ _ e => e)
    · rintro q st' s' _ har hf ⟨rfl, rfl⟩
      exact ⟨kat_snds rfl har, hf, rfl⟩
    · exact evalT_wp (fun i j C hi hj hne hc => hl _ keep i j C hi hj hne hc) _ p hp ⟨rfl, rfl⟩
    · rintro ⟨⟨⟩, st'⟩ s' ⟨h1, hf, rfl⟩
      exact fin st' h1 hf

end
end Mine
end

section
open PySem PySem.Spec PySem.W PyProof.Rows PySem.Calls PyProof.Rows.LCg
namespace Mine
/-- three keys in rising order -/
structure K3 (ka kb kc : List Str) : Prop where
  na : ka ≠ []
  nb : kb ≠ []
  nc : kc ≠ []
  ab : ka ≠ kb
  ac : ka ≠ kc
  bc : kb ≠ kc
  lab : lexLt ka kb = true
  lac : lexLt ka kc = true
  lbc : lexLt kb kc = true
  lba : lexLt kb ka = false
  lca : lexLt kc ka = false
  lcb : lexLt kc kb = false
noncomputable def KIn (ka kb kc k : List Str) : Prop := k = ka ∨ k = kb ∨ k = kc
/-- the refs of the keys that are there, by rising keys -/
noncomputable def inOrder (ka kb kc : List Str) (xs : List Ent) : List Value := [ka, kb, kc].filterMap fun k => (xs.find? fun z => z.1 == k).map fun z => .ref z.2.1

section
variable {prog : Program} {w : World} {A : Around} {E : Value → Shared → Prop} {s : Shared} {ka kb kc : List Str}

theorem katLex_strs {fin : Bool} {Q : Bool → Shared → Prop} : ∀ {x : List Str} {xs : List Value}, ItemsAre (SK prog w) x xs → ∀ {y : List Str} {ys : List Value} (i : Nat), ItemsAre (SK prog w) y ys → fin = decide (xs.length < ys.length) → Q (lexLt x y) s →
    KatLex prog w A true fin Q (xs.zip ys) i s := by
  intro x xs hx
  induction hx with
  | nil =>
    intro y ys i hy hf hq
    refine kat_nil ?_
    rw [hf]
    cases hy with
    | nil => simpa [lexLt] using hq
    | cons _ _ => simpa [lexLt] using hq
  | @cons k v x' xs' h1 hx' ih =>
    intro y ys i hy hf hq
    cases hy with
    | nil =>
      refine kat_nil ?_
      rw [hf]
      simpa [lexLt] using hq
    | @cons k2 v2 y' ys' h2 hy' =>
      rw [List.zip_cons_cons]
      refine kat_cons ((SK prog w).eqBool (a := k) (b := k2) h1 h2 ?_)
      by_cases hk : k = k2
      · subst hk
        rw [decide_eq_true rfl]
        refine kat_yes (ih (i + 1) hy' (by simpa using hf) ?_)
        simpa [lexLt] using hq
      · rw [decide_eq_false hk]
        simp only [lexLt, if_neg hk] at hq
        obtain ⟨t, rfl⟩ := Value.isStrOf_shape h1
        obtain ⟨u, rfl⟩ := Value.isStrOf_shape h2
        refine kat_no ?_
        by_cases hi : i = 0
        · subst hi
          exact oneLt_str hq
        · have e : (true && i == 0) = false := by simp [hi]
          rw [e]
          exact kat_one _ _ (show wpAny (model prog w) A (richCompare .Lt _ _) _ _ s from lt_str hq)

theorem ask_keys {x y : List Str} {a b : Addr} {C : Bool → Shared → Prop} (hx : IsTupleKey (SK prog w) s.heap x a) (hy : IsTupleKey (SK prog w) s.heap y b) (h : C (lexLt x y) s) :
    wpAny (model prog w) A (keyLt' (tuples' true) (.ref a) (.ref b)) C E s := by
  obtain ⟨oa, xs, na, hoa, _, hda, hia⟩ := hx
  obtain ⟨ob, ys, nb, hob, _, hdb, hib⟩ := hy
  exact kat_lt hoa hda hob hdb (katLex_strs hia 0 hib (by simp) h)

theorem kind_keys {h : Heap} : ∀ {xs : List Ent}, (∀ z ∈ xs, z.1 ≠ [] ∧ IsTupleKey (SK prog w) h z.1 z.2.1) → ∃ fs, KatTups h (xs.map fun z => .ref z.2.1) fs ∧ fs.length = xs.length ∧ ∀ v ∈ fs, ∃ x t, v = .str x t
  | [], _ => ⟨[], .nil, rfl, fun _ h => nomatch h⟩
  | z :: xs, hz => by
    obtain ⟨fs, h1, h2, h3⟩ := kind_keys (xs := xs) fun z hz' => hz z (.tail _ hz')
    obtain ⟨hne, o, its, n, ho, hc, hd, hi⟩ := hz z (.head _)
    cases hi' : its.toList with
    | nil => rw [hi'] at hi; cases hk : z.1 with
      | nil => exact absurd hk hne
      | cons _ _ => rw [hk] at hi; cases hi
    | cons v vs =>
      rw [hi'] at hi
      cases hk : z.1 with
      | nil => exact absurd hk hne
      | cons x xs' =>
        rw [hk] at hi
        cases hi with
        | cons hv _ =>
          obtain ⟨t, rfl⟩ := Value.isStrOf_shape hv
          refine ⟨.str x t :: fs, .cons ho hc hd ?_ h1, by simp [h2], fun v hv => ?_⟩
          · rw [← Array.getElem?_toList, hi']; rfl
          · rcases List.mem_cons.mp hv with rfl | hv
            · exact ⟨_, _, rfl⟩
            · exact h3 v hv

theorem looks_str {M : Model} {h : Heap} {x : Str} {t : Tok} : Looks M h (typeOf (.str x t)) (.type "str") := by
  unfold typeOf
  exact .now

noncomputable def rk (ka kb : List Str) (k : List Str) : Nat := if k = ka then 0 else if k = kb then 1 else 2
noncomputable def ltR (rs : List Nat) (i j : Nat) : Bool := decide (rs.getD i 0 < rs.getD j 0)
/-- the places of the ranks, by rising rank -/
noncomputable def ordR (rs : List Nat) : List Nat := [0, 1, 2].filterMap fun r => rs.findIdx? fun x => x == r
theorem ev2 : ∀ a b : Fin 3, a ≠ b → evalT 2 (ltR [a.1, b.1]) (kas_sort 2) = some (ordR [a.1, b.1]).toArray ∧ (ordR [a.1, b.1]).length = 2 := by decide +kernel
theorem ev3 : ∀ a b c : Fin 3, a ≠ b → a ≠ c → b ≠ c → evalT 3 (ltR [a.1, b.1, c.1]) (kas_sort 3) = some (ordR [a.1, b.1, c.1]).toArray ∧ (ordR [a.1, b.1, c.1]).length = 3 := by decide +kernel
theorem ev1 : ∀ a : Fin 3, ordR [a.1] = [0] := by decide +kernel
theorem ev4 : ∀ a b c d : Fin 3, ¬ (a ≠ b ∧ a ≠ c ∧ a ≠ d ∧ b ≠ c ∧ b ≠ d ∧ c ≠ d) := by decide +kernel
theorem evId2 : evalT 2 (fun i j => decide (i < j)) (kas_sort 2) = some #[0, 1] := by decide +kernel
theorem evId3 : evalT 3 (fun i j => decide (i < j)) (kas_sort 3) = some #[0, 1, 2] := by decide +kernel

theorem K3.rka (_h : K3 ka kb kc) : rk ka kb ka = 0 := by simp [rk]
theorem K3.rkb (h : K3 ka kb kc) : rk ka kb kb = 1 := by simp [rk, h.ab.symm]
theorem K3.rkc (h : K3 ka kb kc) : rk ka kb kc = 2 := by simp [rk, h.ac.symm, h.bc.symm]
theorem K3.lt (h : K3 ka kb kc) {x y : List Str} (hx : KIn ka kb kc x) (hy : KIn ka kb kc y) (hne : x ≠ y) : lexLt x y = decide (rk ka kb x < rk ka kb y) := by
  rcases hx with rfl | rfl | rfl <;> rcases hy with rfl | rfl | rfl <;>
    first | exact absurd rfl hne | simp [h.rka, h.rkb, h.rkc, h.lab, h.lac, h.lbc, h.lba, h.lca, h.lcb]

theorem rk_lt (k : List Str) : rk ka kb k < 3 := by
  unfold rk
  split
  · decide
  · split <;> decide
theorem K3.inj (h : K3 ka kb kc) {x y : List Str} (hx : KIn ka kb kc x) (hy : KIn ka kb kc y) (e : rk ka kb x = rk ka kb y) : x = y := by
  rcases hx with rfl | rfl | rfl <;> rcases hy with rfl | rfl | rfl <;> first | rfl | (simp only [h.rka, h.rkb, h.rkc] at e; exact absurd e (by decide))
theorem find_idx {f : Ent → Value} {g : Ent → Nat} {K : List Str} {r : Nat} : ∀ {xs : List Ent}, (∀ z ∈ xs, (z.1 == K) = (g z == r)) → (xs.find? fun z => z.1 == K).map f = ((xs.map g).findIdx? fun x => x == r).map fun i => (xs.map f).getD i Value.none
  | [], _ => rfl
  | z :: xs, h => by
    rw [List.find?_cons, List.map_cons, List.map_cons, List.findIdx?_cons, h z (.head _)]
    cases g z == r with
    | true => rfl
    | false =>
      simp only [Bool.false_eq_true, if_false]
      rw [find_idx (xs := xs) fun q hq => h q (.tail _ hq), Option.map_map]
      rfl
theorem inOrder_idx (h : K3 ka kb kc) {xs : List Ent} (hm : ∀ z ∈ xs, KIn ka kb kc z.1) :
    inOrder ka kb kc xs = (ordR (xs.map fun z => rk ka kb z.1)).map fun i => (xs.map fun z => Value.ref z.2.1).getD i Value.none := by
  have one : ∀ {K : List Str}, KIn ka kb kc K → ∀ z ∈ xs, (z.1 == K) = (rk ka kb z.1 == rk ka kb K) := fun {K} hK z hz => by
    by_cases e : z.1 = K
    · rw [e]; simp
    · have e2 : rk ka kb z.1 ≠ rk ka kb K := fun q => e (h.inj (hm z hz) hK q)
      rw [beq_false_of_ne e, beq_false_of_ne e2]
  have e1 := find_idx (f := fun z => Value.ref z.2.1) (one (.inl rfl))
  have e2 := find_idx (f := fun z => Value.ref z.2.1) (one (.inr (.inl rfl)))
  have e3 := find_idx (f := fun z => Value.ref z.2.1) (one (.inr (.inr rfl)))
  rw [h.rka] at e1
  rw [h.rkb] at e2
  rw [h.rkc] at e3
  unfold inOrder ordR
  rw [List.map_filterMap]
  simp only [List.filterMap_cons, List.filterMap_nil]
  rw [e1, e2, e3]
theorem order_ok (h : K3 ka kb kc) {xs : List Ent} (hn : (xs.map (·.1)).Nodup) (hm : ∀ z ∈ xs, KIn ka kb kc z.1) :
    (if (xs.map fun z => Value.ref z.2.1).length < 2 then inOrder ka kb kc xs = xs.map fun z => Value.ref z.2.1 else
      ∃ p, evalT (xs.map fun z => Value.ref z.2.1).length (ltR (xs.map fun z => rk ka kb z.1)) (kas_sort (xs.map fun z => Value.ref z.2.1).length) = some p ∧ inOrder ka kb kc xs = p.toList.map fun i => (xs.map fun z => Value.ref z.2.1).getD i Value.none) ∧ (inOrder ka kb kc xs).length = xs.length := by
  have e := inOrder_idx h hm
  have ne : ∀ z y : Ent, z ∈ xs → y ∈ xs → z.1 ≠ y.1 → (⟨_, rk_lt z.1⟩ : Fin 3) ≠ ⟨_, rk_lt y.1⟩ := fun z y hz hy q r => q (h.inj (hm _ hz) (hm _ hy) (Fin.mk.inj r))
  rw [e, List.length_map]
  match xs, hn, ne with
  | [], _, _ => exact ⟨rfl, rfl⟩
  | [z], _, _ =>
    have e1 : ordR [rk ka kb z.1] = [0] := ev1 ⟨_, rk_lt z.1⟩
    rw [show ([z].map fun z => rk ka kb z.1) = [rk ka kb z.1] from rfl, e1]
    exact ⟨rfl, rfl⟩
  | [z, y], hn, ne =>
    have hzy : z.1 ≠ y.1 := by simpa using hn
    obtain ⟨e1, e2⟩ := ev2 _ _ (ne _ _ (.head _) (.tail _ (.head _)) hzy)
    exact ⟨⟨_, e1, rfl⟩, (List.length_map _).trans e2⟩
  | [z, y, x], hn, ne =>
    obtain ⟨⟨h1, h2⟩, h3⟩ : (z.1 ≠ y.1 ∧ z.1 ≠ x.1) ∧ y.1 ≠ x.1 := by simpa using hn
    obtain ⟨e1, e2⟩ := ev3 _ _ _ (ne _ _ (.head _) (.tail _ (.head _)) h1) (ne _ _ (.head _) (.tail _ (.tail _ (.head _))) h2) (ne _ _ (.tail _ (.head _)) (.tail _ (.tail _ (.head _))) h3)
    exact ⟨⟨_, e1, rfl⟩, (List.length_map _).trans e2⟩
  | z1 :: z2 :: z3 :: z4 :: r, hn, ne =>
    exfalso
    simp only [List.map_cons, List.nodup_cons, List.mem_cons, not_or] at hn
    obtain ⟨⟨n12, n13, n14, -⟩, ⟨n23, n24, -⟩, ⟨n34, -⟩, -⟩ := hn
    exact ev4 _ _ _ _ ⟨ne _ _ (.head _) (.tail _ (.head _)) n12, ne _ _ (.head _) (.tail _ (.tail _ (.head _))) n13, ne _ _ (.head _) (.tail _ (.tail _ (.tail _ (.head _)))) n14, ne _ _ (.tail _ (.head _)) (.tail _ (.tail _ (.head _))) n23, ne _ _ (.tail _ (.head _)) (.tail _ (.tail _ (.tail _ (.head _)))) n24, ne _ _ (.tail _ (.tail _ (.head _))) (.tail _ (.tail _ (.tail _ (.head _)))) n34⟩
theorem order_len (h : K3 ka kb kc) {xs : List Ent} (hn : (xs.map (·.1)).Nodup) (hm : ∀ z ∈ xs, KIn ka kb kc z.1) :
    (inOrder ka kb kc xs).length = xs.length := (order_ok h hn hm).2
end
end Mine
end

section
open PySem PySem.W PyProof.Rows PySem.Calls
namespace Mine
theorem allLt_all {d : Addr} : ∀ (l : Led), AllLt d l → ∀ q ∈ l, @LT.lt Nat _ q.1 d := by
  intro l
  induction l with
  | nil => exact fun _ q hq => nomatch hq
  | cons p r ih =>
    intro h q hq
    cases hq with
    | head => exact h.1
    | tail _ hq => exact ih h.2 q hq

theorem linesCA1 : True := by
  k_with_none
  k_with "ne" => (refine neN ?_; (try dsimp only); first | with_reducible assumption | with_reducible exact Ne.symm (by with_reducible assumption) | exact Nat.ne_of_lt (by first | with_reducible assumption | ((refine ltC (by with_reducible assumption) ?_); (repeat (first | with_reducible exact takeL | with_reducible exact sameL | with_reducible refine skipL ?_)); done) | fail) | exact Ne.symm (Nat.ne_of_lt (by first | with_reducible assumption | ((refine ltC (by with_reducible assumption) ?_); (repeat (first | with_reducible exact takeL | with_reducible exact sameL | with_reducible refine skipL ?_)); done) | fail)) | omega)
  k_with "mem" => with_reducible assumption
  k_with "compareOp Eq" => (k_here; k_dflt (refine' eqDL (by k_asm) (by k_asm) (by first | assumption | fail) (by first | assumption | fail) (by first | assumption | fail) (by first | assumption | fail) (by first | ktr_units | fail) ?_; k_whole))
  trivial

theorem textf {w : World} {dp un : Nat} {fs : Option (List Env)} {gd : Option (List Code)} {s : Shared} {Q E : Value → Shared → Prop} {h₀ : Heap} {L : Addr} {m : Str → Option Value} {news : Led} {v1 : Value}
    (G : Gr w h₀) (F : Fr h₀ L s.heap m) (N : News h₀ L s.heap news) (hdp : dp + 8 < recursionLimit) (hun : un + 100 < cLine) 
    (ret : ∀ D e1 e2 h' tk t1 t2, Fr h₀ L h' m → News h₀ L h' ((D, tup [.str "text" t1, .str "" t2, v1, .ref e1, .ref e2]) :: (e2, tup []) :: (e1, tup []) :: news) → AllLt e1 news → @LT.lt Nat _ e1 e2 ∧ AllLt e2 news → @LT.lt Nat _ e2 D ∧ @LT.lt Nat _ e1 D ∧ AllLt D news → Q (.ref D) { s with heap := h', toks := tk }) :
    wpAny (model PySem.Challenge.pw_xm0632_01 w) (AR dp un fs gd) (call (.ref 21) [v1]) Q E s := by
  obtain ⟨⟨loose, mean, mg, mb, T⟩, X⟩ := G
  refine wpAny_call ?_
  refine enterS [(Str.ofString "text", v1)] news (fun _ h => h) X T F N (by k_is) (by k_is) (by omega) (BindsTo.of_eq rfl) (locs rfl) (by decide) rfl rfl rfl ?_
  intro g L' h₁ X' T' sg hAt back F' N' lt'
  clear F N X T
  k_steps
  all_goals ((with_reducible rename News g L' _ _ => nN); (with_reducible rename Fr g L' _ _ => nF); (obtain ⟨bF, bN, -, -⟩ := back _ _ _ nF nN))
  exact ret _ _ _ _ _ _ _ bF bN (allLt_of (by with_reducible assumption)) (by with_reducible assumption) (by with_reducible assumption)

theorem commentf {w : World} {dp un : Nat} {fs : Option (List Env)} {gd : Option (List Code)} {s : Shared} {Q E : Value → Shared → Prop} {h₀ : Heap} {L : Addr} {m : Str → Option Value} {news : Led} {v1 : Value}
    (G : Gr w h₀) (F : Fr h₀ L s.heap m) (N : News h₀ L s.heap news) (hdp : dp + 8 < recursionLimit) (hun : un + 100 < cLine) 
    (ret : ∀ D e1 e2 h' tk t1 t2, Fr h₀ L h' m → News h₀ L h' ((D, tup [.str "comment" t1, .str "" t2, v1, .ref e1, .ref e2]) :: (e2, tup []) :: (e1, tup []) :: news) → AllLt e1 news → @LT.lt Nat _ e1 e2 ∧ AllLt e2 news → @LT.lt Nat _ e2 D ∧ @LT.lt Nat _ e1 D ∧ AllLt D news → Q (.ref D) { s with heap := h', toks := tk }) :
    wpAny (model PySem.Challenge.pw_xm0632_01 w) (AR dp un fs gd) (call (.ref 28) [v1]) Q E s := by
  obtain ⟨⟨loose, mean, mg, mb, T⟩, X⟩ := G
  refine wpAny_call ?_
  refine enterS [(Str.ofString "text", v1)] news (fun _ h => h) X T F N (by k_is) (by k_is) (by omega) (BindsTo.of_eq rfl) (locs rfl) (by decide) rfl rfl rfl ?_
  intro g L' h₁ X' T' sg hAt back F' N' lt'
  clear F N X T
  k_steps
  all_goals ((with_reducible rename News g L' _ _ => nN); (with_reducible rename Fr g L' _ _ => nF); (obtain ⟨bF, bN, -, -⟩ := back _ _ _ nF nN))
  exact ret _ _ _ _ _ _ _ bF bN (allLt_of (by with_reducible assumption)) (by with_reducible assumption) (by with_reducible assumption)

theorem due {w : World} {dp un : Nat} {fs : Option (List Env)} {gd : Option (List Code)} {s : Shared} {Q E : Value → Shared → Prop} {h₀ : Heap} {L : Addr} {m : Str → Option Value} {news : Led} {v1 v2 v3 : Value} {d1 d2 d3 : PyData}
    (G : Gr w h₀) (F : Fr h₀ L s.heap m) (N : News h₀ L s.heap news) (hdp : dp + 8 < recursionLimit) (hun : un + 100 < cLine) (r1 : DL (At h₀ news) v1 d1) (r2 : DL (At h₀ news) v2 d2) (r3 : DL (At h₀ news) v3 d3) (k1 : SeqAt.shaped d1 = true) (k2 : SeqAt.shaped d2 = true) (k3 : SeqAt.shaped d3 = true)
    (ret : ∀ D h' tk, Fr h₀ L h' m → News h₀ L h' ((D, tup [if (PyData.eqv d2 d3 || PyData.eqv d3 d1 || !PyData.eqv d2 d1) = true then v2 else v3, .bool (!(PyData.eqv d2 d3 || PyData.eqv d3 d1 || PyData.eqv d2 d1))]) :: news) → AllLt D news → Q (.ref D) { s with heap := h', toks := tk }) :
    wpAny (model PySem.Challenge.pw_xm0632_01 w) (AR dp un fs gd) (call (.ref 99) [v1, v2, v3]) Q E s := by
  obtain ⟨⟨loose, mean, mg, mb, T⟩, X⟩ := G
  refine wpAny_call ?_
  refine enterS [(Str.ofString "was", v1), (Str.ofString "ours", v2), (Str.ofString "theirs", v3)] news (fun _ h => h) X T F N (by k_is) (by k_is) (by omega) (BindsTo.of_eq rfl) (locs rfl) (by decide) rfl rfl rfl ?_
  intro g L' h₁ X' T' sg hAt back F' N' lt'
  replace r1 := r1.up hAt
  replace r2 := r2.up hAt
  replace r3 := r3.up hAt
  clear F N X T
  k_steps
  all_goals ((with_reducible rename News g L' _ _ => nN); (with_reducible rename Fr g L' _ _ => nF); (obtain ⟨bF, bN, -, -⟩ := back _ _ _ nF nN))
  · with_reducible rename PyData.eqv d2 d3 = true => e1
    simp only [e1, Bool.true_or, if_true, Bool.not_true] at ret
    exact ret _ _ _ bF bN (allLt_of (by with_reducible assumption))
  · with_reducible rename PyData.eqv d2 d3 = false => e1
    with_reducible rename PyData.eqv d3 d1 = true => e2
    simp only [e1, e2, Bool.true_or, Bool.or_true, if_true, Bool.not_true] at ret
    exact ret _ _ _ bF bN (allLt_of (by with_reducible assumption))
  · with_reducible rename PyData.eqv d2 d3 = false => e1
    with_reducible rename PyData.eqv d3 d1 = false => e2
    with_reducible rename PyData.eqv d2 d1 = true => e3
    simp only [e1, e2, e3, Bool.false_or, Bool.or_true, Bool.false_eq_true, if_false, Bool.not_true] at ret
    exact ret _ _ _ bF bN (allLt_of (by with_reducible assumption))
  · with_reducible rename PyData.eqv d2 d3 = false => e1
    with_reducible rename PyData.eqv d3 d1 = false => e2
    with_reducible rename PyData.eqv d2 d1 = false => e3
    simp only [e1, e2, e3, Bool.false_or, Bool.or_true, if_true, Bool.not_false] at ret
    exact ret _ _ _ bF bN (allLt_of (by with_reducible assumption))

theorem mval {w : World} {dp un : Nat} {fs : Option (List Env)} {gd : Option (List Code)} {s : Shared} {Q E : Value → Shared → Prop} {h₀ : Heap} {L : Addr} {m : Str → Option Value} {news : Led} {x y z : Str} {tx ty tz : Tok} {v1 v2 v5 v6 a3 a4 a7 a8 c1 c2 c3 c4 path : Value} {b1 b2 b3 : Addr}
    (G : Gr w h₀) (F : Fr h₀ L s.heap m) (N : News h₀ L s.heap news) (hdp : dp + 8 < recursionLimit) (hun : un + 100 < cLine) (m1 : (b1, tup [v1, v2, .str x tx, a3, a4]) ∈ news) (m2 : (b2, tup [v5, v6, .str y ty, a7, a8]) ∈ news) (m3 : (b3, tup [c1, c2, .str z tz, c3, c4]) ∈ news)
    (ret1 : (y == z || z == x || y == x) = true → ∀ D l h' tk, Fr h₀ L h' m → News h₀ L h' ((D, tup [if (y == z || z == x) = true then .str y ty else .str z tz, .ref l]) :: (l, W.listOf #[] 0) :: news) → AllLt l news → @LT.lt Nat _ l D ∧ AllLt D news → Q (.ref D) { s with heap := h', toks := tk })
    (ret2 : (y == z || z == x || y == x) = false → ∀ D l e t h' tk, Fr h₀ L h' m → News h₀ L h' ((D, tup [.str y ty, .ref l]) :: (l, W.listOf #[.ref e] 0) :: (e, tup [.str "value" t, path, .str y ty, .str z tz]) :: news) → AllLt e news → @LT.lt Nat _ e l ∧ AllLt l news → @LT.lt Nat _ l D ∧ @LT.lt Nat _ e D ∧ AllLt D news → Q (.ref D) { s with heap := h', toks := tk }) :
    wpAny (model PySem.Challenge.pw_xm0632_01 w) (AR dp un fs gd) (call (.ref 54) [.ref b1, .ref b2, .ref b3, path]) Q E s := by
  obtain ⟨⟨loose, mean, mg, mb, T⟩, X⟩ := G
  refine wpAny_call ?_
  refine enterS [(Str.ofString "base", .ref b1), (Str.ofString "one", .ref b2), (Str.ofString "other", .ref b3), (Str.ofString "path", path)] news (fun _ h => h) X T F N (by k_is) (by k_is) (by omega) (BindsTo.of_eq rfl) (locs rfl) (by decide) rfl rfl rfl ?_
  intro g L' h₁ X' T' sg hAt back F' N' lt'
  clear F N X T
  k_steps
  all_goals ((with_reducible rename News g L' _ _ => nN); (with_reducible rename Fr g L' _ _ => nF); (obtain ⟨bF, bN, -, -⟩ := back _ _ _ nF nN))
  · with_reducible rename (y == z) = true => e1
    replace ret1 := ret1 (by rw [e1]; rfl)
    rw [if_pos (by rw [e1]; rfl)] at ret1
    exact ret1 _ _ _ _ bF bN (allLt_of (by with_reducible assumption)) (by with_reducible assumption)
  · with_reducible rename (y == z) = false => e1
    with_reducible rename (z == x) = true => e2
    replace ret1 := ret1 (by rw [e1, e2]; rfl)
    rw [if_pos (by rw [e1, e2]; rfl)] at ret1
    exact ret1 _ _ _ _ bF bN (allLt_of (by with_reducible assumption)) (by with_reducible assumption)
  · with_reducible rename (y == z) = false => e1
    with_reducible rename (z == x) = false => e2
    with_reducible rename (y == x) = true => e3
    replace ret1 := ret1 (by rw [e1, e2, e3]; rfl)
    rw [if_neg (by rw [e1, e2]; exact Bool.false_ne_true)] at ret1
    exact ret1 _ _ _ _ bF bN (allLt_of (by with_reducible assumption)) (by with_reducible assumption)
  · with_reducible rename (y == z) = false => e1
    with_reducible rename (z == x) = false => e2
    with_reducible rename (y == x) = false => e3
    exact ret2 (by rw [e1, e2, e3]; rfl) _ _ _ _ _ _ bF bN (allLt_of (by with_reducible assumption)) (by with_reducible assumption) (by with_reducible assumption)

end Mine
end

section
open PySem PySem.W PyProof.Rows PySem.Calls
namespace Mine
section
variable {w : World} {dp un : Nat} {fs : Option (List Env)} {gd : Option (List Code)} {s : Shared} {Q E : Value → Shared → Prop} {h₀ : Heap} {L : Addr} {m : Str → Option Value} {news : Led}
theorem dueA {v1 v2 v3 : Value} {d1 d2 d3 : PyData}
    (G : Gr w h₀) (F : Fr h₀ L s.heap m) (N : News h₀ L s.heap news) (hdp : dp + 8 < recursionLimit) (hun : un + 100 < cLine) (r1 : DL (At h₀ news) v1 d1) (r2 : DL (At h₀ news) v2 d2) (r3 : DL (At h₀ news) v3 d3) (k1 : SeqAt.shaped d1 = true) (k2 : SeqAt.shaped d2 = true) (k3 : SeqAt.shaped d3 = true)
    (hc : (PyData.eqv d2 d3 || PyData.eqv d3 d1) = true)
    (ret : ∀ D h' tk, Fr h₀ L h' m → News h₀ L h' ((D, tup [v2, .bool false]) :: news) → AllLt D news → Q (.ref D) { s with heap := h', toks := tk }) :
    wpAny (model PySem.Challenge.pw_xm0632_01 w) (AR dp un fs gd) (call (.ref 99) [v1, v2, v3]) Q E s :=
  due G F N hdp hun r1 r2 r3 k1 k2 k3 (by rw [hc]; exact ret)
theorem dueB {v1 v2 v3 : Value} {d1 d2 d3 : PyData}
    (G : Gr w h₀) (F : Fr h₀ L s.heap m) (N : News h₀ L s.heap news) (hdp : dp + 8 < recursionLimit) (hun : un + 100 < cLine) (r1 : DL (At h₀ news) v1 d1) (r2 : DL (At h₀ news) v2 d2) (r3 : DL (At h₀ news) v3 d3) (k1 : SeqAt.shaped d1 = true) (k2 : SeqAt.shaped d2 = true) (k3 : SeqAt.shaped d3 = true)
    (hc : (PyData.eqv d2 d3 || PyData.eqv d3 d1) = false) (he : PyData.eqv d2 d1 = true)
    (ret : ∀ D h' tk, Fr h₀ L h' m → News h₀ L h' ((D, tup [v3, .bool false]) :: news) → AllLt D news → Q (.ref D) { s with heap := h', toks := tk }) :
    wpAny (model PySem.Challenge.pw_xm0632_01 w) (AR dp un fs gd) (call (.ref 99) [v1, v2, v3]) Q E s :=
  due G F N hdp hun r1 r2 r3 k1 k2 k3 (by rw [hc, he]; exact ret)
theorem dueC {v1 v2 v3 : Value} {d1 d2 d3 : PyData}
    (G : Gr w h₀) (F : Fr h₀ L s.heap m) (N : News h₀ L s.heap news) (hdp : dp + 8 < recursionLimit) (hun : un + 100 < cLine) (r1 : DL (At h₀ news) v1 d1) (r2 : DL (At h₀ news) v2 d2) (r3 : DL (At h₀ news) v3 d3) (k1 : SeqAt.shaped d1 = true) (k2 : SeqAt.shaped d2 = true) (k3 : SeqAt.shaped d3 = true)
    (hc : (PyData.eqv d2 d3 || PyData.eqv d3 d1) = false) (he : PyData.eqv d2 d1 = false)
    (ret : ∀ D h' tk, Fr h₀ L h' m → News h₀ L h' ((D, tup [v2, .bool true]) :: news) → AllLt D news → Q (.ref D) { s with heap := h', toks := tk }) :
    wpAny (model PySem.Challenge.pw_xm0632_01 w) (AR dp un fs gd) (call (.ref 99) [v1, v2, v3]) Q E s :=
  due G F N hdp hun r1 r2 r3 k1 k2 k3 (by rw [hc, he]; exact ret)
variable {x y z : Str} {tx ty tz : Tok} {v1 v2 v5 v6 a3 a4 a7 a8 c1 c2 c3 c4 path : Value} {b1 b2 b3 : Addr}
noncomputable def vdS (x y z : Str) : Str := if (y == z || z == x || !(y == x)) = true then y else z
noncomputable def bdS (x y z : Str) : Bool := !(y == z || z == x || y == x)
noncomputable def cdS (pd : PyData) (x y z : Str) : List PyData := if bdS x y z = true then [.tuple [.str "value", pd, .str y, .str z]] else []
theorem dueV (G : Gr w h₀) (F : Fr h₀ L s.heap m) (N : News h₀ L s.heap news) (hdp : dp + 8 < recursionLimit) (hun : un + 100 < cLine) (k1 : SeqAt.shaped (.str x) = true) (k2 : SeqAt.shaped (.str y) = true) (k3 : SeqAt.shaped (.str z) = true)
    (ret : ∀ D td b h' tk, bdS x y z = b → Fr h₀ L h' m → News h₀ L h' ((D, tup [.str (vdS x y z) td, .bool b]) :: news) → AllLt D news → Q (.ref D) { s with heap := h', toks := tk }) :
    wpAny (model PySem.Challenge.pw_xm0632_01 w) (AR dp un fs gd) (call (.ref 99) [.str x tx, .str y ty, .str z tz]) Q E s :=
  due G F N hdp hun (.str _ _) (.str _ _) (.str _ _) k1 k2 k3 (fun D h' tk F' N' l => by
    have e : (if (y == z || z == x || !(y == x)) = true then Value.str y ty else Value.str z tz) = .str (vdS x y z) (if (y == z || z == x || !(y == x)) = true then ty else tz) := by unfold vdS; split <;> rfl
    exact ret D _ _ h' tk rfl F' (by rw [← e]; exact N') l)
theorem mvalX {pd : PyData} (G : Gr w h₀) (F : Fr h₀ L s.heap m) (N : News h₀ L s.heap news) (hdp : dp + 8 < recursionLimit) (hun : un + 100 < cLine)
    (m1 : (b1, tup [v1, v2, .str x tx, a3, a4]) ∈ news) (m2 : (b2, tup [v5, v6, .str y ty, a7, a8]) ∈ news) (m3 : (b3, tup [c1, c2, .str z tz, c3, c4]) ∈ news) (hp : DL (At h₀ []) path pd)
    (ret : ∀ D nl h' tk, Fr h₀ L h' m → News h₀ L h' nl → (∀ p ∈ news, p ∈ nl) → DL (At h₀ nl) (.ref D) (.tuple [.str (vdS x y z), .list (cdS pd x y z)]) → Q (.ref D) { s with heap := h', toks := tk }) :
    wpAny (model PySem.Challenge.pw_xm0632_01 w) (AR dp un fs gd) (call (.ref 54) [.ref b1, .ref b2, .ref b3, path]) Q E s := by
  refine mval G F N hdp hun m1 m2 m3 (fun hc D l h' tk F' N' _ _ => ?_) (fun hc D l e t h' tk F' N' _ _ _ => ?_)
  · refine ret D _ h' tk F' N' (fun p hp => .tail _ (.tail _ hp)) ?_
    have e1 : cdS pd x y z = [] := by unfold cdS bdS; rw [hc]; rfl
    have e2 : (if (y == z || z == x) = true then Value.str y ty else Value.str z tz) = .str (vdS x y z) (if (y == z || z == x) = true then ty else tz) := by
      unfold vdS
      cases h : (y == z || z == x) with
      | true => rfl
      | false =>
        rw [h, Bool.false_or] at hc
        rw [hc]; rfl
    rw [e1]
    exact DL.tuple (.inr (.head _)) rfl rfl rfl (.cons (by rw [e2]; exact .str _ _) (.cons (DL.list (.inr (.tail _ (.head _))) rfl rfl rfl .nil) .nil))
  · refine ret D _ h' tk F' N' (fun p hp => .tail _ (.tail _ (.tail _ hp))) ?_
    have e1 : cdS pd x y z = [.tuple [.str "value", pd, .str y, .str z]] := by unfold cdS bdS; rw [hc]; rfl
    have e2 : vdS x y z = y := by
      unfold vdS
      have h := (Bool.or_eq_false_iff.mp hc).2
      rw [h]; simp
    rw [e1, e2]
    exact DL.tuple (.inr (.head _)) rfl rfl rfl (.cons (.str _ _) (.cons (DL.list (.inr (.tail _ (.head _))) rfl rfl rfl (.cons (DL.tuple (.inr (.tail _ (.tail _ (.head _)))) rfl rfl rfl (.cons (.str _ _) (.cons (hp.up (At.up fun _ h => absurd h List.not_mem_nil)) (.cons (.str _ _) (.cons (.str _ _) .nil))))) .nil)) .nil))
end
end Mine
end

section
open PySem PySem.Spec PySem.W PyProof.Rows PySem.Calls PyProof.Rows.LCg
namespace Mine
/-- how a turn of a loop ends: with the iterator's object apart, the list as it was and the invariant -/
noncomputable def TurnEnd (h₀ : Heap) (L I : Addr) (oI : Obj) (l : Addr) (lo : Obj) (J : (Str → Option Value) → Led → Prop) (s₁ : Shared) (Q : Flow → Shared → Prop) (f : Flow) (s' : Shared) : Prop :=
  match f with
  | .ret v => Q (.ret v) s'
  | .brk => Q .next s'
  | _ => ∃ h' tk m' news', s' = { s₁ with heap := h', toks := tk } ∧ Fr h₀ L h' m' ∧ News h₀ L h' ((I, oI) :: news') ∧ (∀ p ∈ news', @Ne Nat p.1 I) ∧ At h₀ news' l lo ∧ J m' news'
section
variable {prog : Program} {w : World} {A : Around} {s : Shared} {h₀ : Heap} {L : Addr} {m : Str → Option Value} {env : Env}

theorem turns_list {target : PySem.Expr} {body : List Stmt} {Q : Flow → Shared → Prop} {E : Value → Shared → Prop} {l : Addr} {lo : Obj} {items : Array Value} {n : Nat} {news : Led} (J : Nat → (Str → Option Value) → Led → Prop)
    (hh : A.handled = none) (F : Fr h₀ env.locals s.heap m) (N : News h₀ env.locals s.heap news) (hlo : At h₀ news l lo) (hc : lo.cls = .type "list") (hd : lo.data = .seq items n) (h0 : J 0 m news)
    (step : ∀ i v m₁ news₁ h₁ tk₁ I oI (R : Flow → Shared → Prop), (∀ f s', TurnEnd h₀ env.locals I oI l lo (J (i + 1)) { s with heap := h₁, toks := tk₁ } Q f s' → R f s') → items[i]? = some v → J i m₁ news₁ → (∀ p ∈ news₁, @Ne Nat p.1 I) → At h₀ news₁ l lo → Fr h₀ env.locals h₁ m₁ → News h₀ env.locals h₁ ((I, oI) :: news₁) →
      wpAny (model prog w) A (assign target env v) (fun _ s₃ => wpAny (model prog w) A (execs body env) R E s₃) E { s with heap := h₁, toks := tk₁ })
    (done : ∀ h' tk m' news', Fr h₀ env.locals h' m' → News h₀ env.locals h' news' → J items.size m' news' → Q .next { s with heap := h', toks := tk }) :
    wpAny (model prog w) A (pyIter (.ref l)) (fun it s₂ => TurnsAt prog w A h₀ env target body Q E it s₂) E s := by
  have hl : s.heap.IsList l items := ⟨lo, At.get F N _ _ hlo, hc, n, hd⟩
  have hlt : @LT.lt Nat _ l s.heap.objs.size := Heap.lt_size (At.get F N _ _ hlo)
  refine wpAny_pyIter_list hl ?_
  have up : ∀ b o, s.heap.get? b = some o → (s.heap.push { cls := .type "list_iterator", data := .fields #[.ref l, .int 0 0] }).get? b = some o := fun b o e => Heap.get?_push_of_some _ e
  have hlL : env.locals ≠ l := by
    rcases hlo with e | e
    · have h1 := Heap.lt_size e
      have h2 := F.above
      exact fun q => Nat.lt_irrefl _ (Nat.lt_of_lt_of_le (q ▸ h1) h2)
    · exact fun q => (N _ e).2.1 q.symm
  have hI₀ : h₀.get? s.heap.objs.size = none := next_is_new F
  have hLI : env.locals ≠ s.heap.objs.size := Nat.ne_of_lt F.ns.lt
  refine ⟨s.heap.objs.size, [s.heap.objs.size, l], [s.heap.objs.size], items.size, _, _, _, m, news, fun i m' news' => J i m' news' ∧ At h₀ news' l lo, rfl,
    KTurns.ofWalks (Walks.list hh s.heap.objs.size l (Nat.ne_of_lt hlt) items) (fun i v s' Q' E' st hQ => by obtain ⟨o, e, hc', _⟩ := st.1; exact goQuiet e hc' (by decide) hQ), ?_, ?_, ?_, ⟨⟨_, Heap.get?_push_size _ rfl, rfl, rfl⟩, hl.push _⟩, F.keeps up, N.grown up, ⟨h0, hlo⟩, ?_, ?_⟩
  · simpa using ⟨hLI, hlL⟩
  · intro b hb
    rw [List.mem_singleton.mp hb]; exact hI₀
  · intro p hp hq
    exact Nat.ne_of_lt (Heap.lt_size (N p hp).1) (List.mem_singleton.mp hq)
  · intro i v m₁ news₁ h₁ tk₁ own hi hP hJ hwr ho1 ho2 ho3 hst F₁ N₁
    obtain ⟨oI, hoI, rI⟩ := hst.1
    have hmI : (s.heap.objs.size, oI) ∈ own := ho3 _ (by simp) hI₀ _ hoI
    have NI : News h₀ env.locals h₁ ((s.heap.objs.size, oI) :: news₁) := fun p hp => by
      rcases List.mem_cons.mp hp with rfl | hp
      · exact N₁ _ (List.mem_append_left _ hmI)
      · exact N₁ _ (List.mem_append_right _ hp)
    have off : ∀ p ∈ news₁, @Ne Nat p.1 s.heap.objs.size := fun p hp q => hwr p hp (by rw [q]; simp)
    refine wpAny_mono (step i v m₁ news₁ h₁ tk₁ s.heap.objs.size oI _ (fun _ _ x => x) hP hJ.1 off hJ.2 F₁ NI) (fun _ s₃ h₃ => wpAny_mono h₃ (fun f s₄ h₄ => ?_) fun _ _ e => e) fun _ _ e => e
    have fin : (∃ h' tk m' news', s₄ = { s with heap := h', toks := tk } ∧ Fr h₀ env.locals h' m' ∧ News h₀ env.locals h' ((s.heap.objs.size, oI) :: news') ∧ (∀ p ∈ news', @Ne Nat p.1 s.heap.objs.size) ∧ At h₀ news' l lo ∧ J (i + 1) m' news') →
        LoopStepU h₀ env.locals [s.heap.objs.size] own (fun m' news' => J (i + 1) m' news' ∧ At h₀ news' l lo) { s with heap := h₁, toks := tk₁ } .next s₄ := by
      rintro ⟨h', tk, m', news', rfl, F', N', off', hl', hJ'⟩
      refine LoopStepU.intro F' (fun p hp => ?_) (fun p hp q => off' p hp (List.mem_singleton.mp q)) ⟨hJ', hl'⟩
      rcases List.mem_append.mp hp with hp | hp
      · refine ⟨?_, (N₁ p (List.mem_append_left _ hp)).2⟩
        have hp1 := ho1 p hp
        have hp2 := ho2 p hp
        obtain ⟨pa, po⟩ := p
        rcases List.mem_cons.mp hp1 with q | q
        · simp only at q hp2
          subst q
          rw [hoI] at hp2
          cases hp2
          exact (N' _ (.head _)).1
        · rw [List.mem_singleton] at q
          simp only at q hp2
          subst q
          have : h₁.get? pa = some lo := At.get F₁ (fun p hp => N₁ p (List.mem_append_right _ hp)) _ _ hJ.2
          rw [this] at hp2
          cases hp2
          exact At.get F' (fun p hp => N' p (.tail _ hp)) _ _ hl'
      · exact N' p (.tail _ hp)
    cases f with
    | ret v => exact LoopStepV.ret h₄
    | brk => exact LoopStepV.brk h₄
    | cont => exact LoopStepV.cont (fin h₄)
    | next => exact LoopStepV.next (fin h₄)
  · intro h' tk m' news' F' N' _ hJ
    exact done h' tk m' news' F' N' hJ.1

/-- a frame's names, some of them written -/
theorem frOf {h : Heap} {m m' : Str → Option Value} (F : Fr h₀ L h m) (e : ∀ y, m' y = m y) : Fr h₀ L h m' := by
  have : m' = m := funext e
  rw [this]; exact F
theorem setOne {x y : Str} {v : Value} {m : Str → Option Value} {r : Option Value} (e : m x = some v) (hr : r = m y) : (if y = x then some v else r) = m y := by
  by_cases h : y = x
  · rw [if_pos h, h, e]
  · rw [if_neg h, hr]
theorem frSet2 {h : Heap} {x x2 : Str} {v v2 : Value} {m : Str → Option Value} (F : Fr h₀ L h m) (e : m x = some v) (e2 : m x2 = some v2) : Fr h₀ L h (fun y => if y = x then some v else if y = x2 then some v2 else m y) := frOf F fun _ => setOne e (setOne e2 rfl)
theorem frSet3 {h : Heap} {x x2 x3 : Str} {v v2 v3 : Value} {m : Str → Option Value} (F : Fr h₀ L h m) (e : m x = some v) (e2 : m x2 = some v2) (e3 : m x3 = some v3) : Fr h₀ L h (fun y => if y = x then some v else if y = x2 then some v2 else if y = x3 then some v3 else m y) := frOf F fun _ => setOne e (setOne e2 (setOne e3 rfl))
theorem frSet4 {h : Heap} {x x2 x3 x4 : Str} {v v2 v3 v4 : Value} {m : Str → Option Value} (F : Fr h₀ L h m) (e : m x = some v) (e2 : m x2 = some v2) (e3 : m x3 = some v3) (e4 : m x4 = some v4) : Fr h₀ L h (fun y => if y = x then some v else if y = x2 then some v2 else if y = x3 then some v3 else if y = x4 then some v4 else m y) := frOf F fun _ => setOne e (setOne e2 (setOne e3 (setOne e4 rfl)))
theorem frSet5 {h : Heap} {x x2 x3 x4 x5 : Str} {v v2 v3 v4 v5 : Value} {m : Str → Option Value} (F : Fr h₀ L h m) (e : m x = some v) (e2 : m x2 = some v2) (e3 : m x3 = some v3) (e4 : m x4 = some v4) (e5 : m x5 = some v5) : Fr h₀ L h (fun y => if y = x then some v else if y = x2 then some v2 else if y = x3 then some v3 else if y = x4 then some v4 else if y = x5 then some v5 else m y) := frOf F fun _ => setOne e (setOne e2 (setOne e3 (setOne e4 (setOne e5 rfl))))
theorem frSet6 {h : Heap} {x x2 x3 x4 x5 x6 : Str} {v v2 v3 v4 v5 v6 : Value} {m : Str → Option Value} (F : Fr h₀ L h m) (e : m x = some v) (e2 : m x2 = some v2) (e3 : m x3 = some v3) (e4 : m x4 = some v4) (e5 : m x5 = some v5) (e6 : m x6 = some v6) : Fr h₀ L h (fun y => if y = x then some v else if y = x2 then some v2 else if y = x3 then some v3 else if y = x4 then some v4 else if y = x5 then some v5 else if y = x6 then some v6 else m y) := frOf F fun _ => setOne e (setOne e2 (setOne e3 (setOne e4 (setOne e5 (setOne e6 rfl)))))
/-- what a turn leaves, by hand -/
theorem turnEnd {h₀ : Heap} {L I : Addr} {oI : Obj} {l : Addr} {lo : Obj} {J : (Str → Option Value) → Led → Prop} {s₁ : Shared} {Q : Flow → Shared → Prop} {f : Flow} {h' : Heap} {tk : Nat} {m' : Str → Option Value} {nl big : Led} (hf : f = .next ∨ f = .cont)
    (F : Fr h₀ L h' m') (N : News h₀ L h' big) (hI : (I, oI) ∈ big) (hb : ∀ p ∈ nl, p ∈ big) (off : ∀ p ∈ nl, @Ne Nat p.1 I) (hl : At h₀ nl l lo) (hJ : J m' nl) :
    TurnEnd h₀ L I oI l lo J s₁ Q f { s₁ with heap := h', toks := tk } := by
  have hN : News h₀ L h' ((I, oI) :: nl) := fun p hp => by
    rcases List.mem_cons.mp hp with rfl | hp
    · exact N _ hI
    · exact N _ (hb _ hp)
  rcases hf with rfl | rfl <;> exact ⟨h', tk, m', nl, rfl, F, hN, off, hl, hJ⟩
theorem sub1 {a : Addr × Obj} {big : Led} (h1 : a ∈ big) : ∀ p ∈ [a], p ∈ big := fun _ hp => by
  rw [List.mem_singleton.mp hp]; exact h1
theorem subC {a : Addr × Obj} {l big : Led} (h1 : a ∈ big) (h2 : ∀ p ∈ l, p ∈ big) : ∀ p ∈ a :: l, p ∈ big := fun _ hp => by
  rcases List.mem_cons.mp hp with rfl | hp
  · exact h1
  · exact h2 _ hp
end
end Mine
end

section
open PySem PySem.W PyProof.Rows PySem.Calls
namespace Mine

theorem neSame {prog : Program} {w : World} {A : Around} {E : Value → Shared → Prop} {s : Shared} {g : Heap} {L : Addr} {m : Str → Option Value} {news : Led} {a b : Value} {d : PyData} {Q : Value → Shared → Prop}
    (F : Fr g L s.heap m) (N : News g L s.heap news) (ra : DL (At g news) a d) (rb : DL (At g news) b d) (ha : OkD 8 d) (hu : A.units + 64 < cLine)
    (h : Q (.bool false) s) : wpAny (model prog w) A (compareOp .NotEq a b) Q E s := by
  refine neDL F N ra rb (ha.shaped (by decide)) (ha.shaped (by decide)) hu ?_
  rw [SeqAt.eqv_refl d ha.1]; exact h
theorem some_ok {i : Nat} {v : Value} {t1 t2 t3 : Tok} (h : (#[Value.str "" t1, Value.str "x" t2, Value.str "y" t3] : Array Value)[i]? = some v) : ∃ x t, v = .str x t ∧ PyData.strOk x = true := by
  match i with
  | 0 => cases h; exact ⟨_, _, rfl, by decide +kernel⟩
  | 1 => cases h; exact ⟨_, _, rfl, by decide +kernel⟩
  | 2 => cases h; exact ⟨_, _, rfl, by decide +kernel⟩
  | n + 3 => simp at h
theorem dlTup {g : Heap} {tl : Led} {a : Addr} {o : Obj} {vs : List Value} {ds : List PyData} (hm : (a, o) ∈ tl) (ho : o = tup vs) (r : DLs (At g tl) vs ds) : DL (At g tl) (.ref a) (.tuple ds) := by
  subst ho; exact DL.tuple (.inr hm) rfl rfl rfl r
theorem dlLst {g : Heap} {tl : Led} {a : Addr} {o : Obj} {vs : List Value} {n : Nat} {ds : List PyData} (hm : (a, o) ∈ tl) (ho : o = W.listOf vs.toArray n) (r : DLs (At g tl) vs ds) : DL (At g tl) (.ref a) (.list ds) := by
  subst ho; exact DL.list (.inr hm) rfl rfl rfl r
theorem dl0 {g : Heap} {tl : Led} {v : Value} {d : PyData} (x : DL (At g []) v d) : DL (At g tl) v d := x.up (At.up fun _ h => absurd h List.not_mem_nil)
theorem linesCV1 : True := by
  k_with_none
  k_with "ne" => (refine neN ?_; (try dsimp only); first | with_reducible assumption | with_reducible exact Ne.symm (by with_reducible assumption) | exact Nat.ne_of_lt (by first | with_reducible assumption | ((refine ltC (by with_reducible assumption) ?_); (repeat (first | with_reducible exact takeL | with_reducible exact sameL | with_reducible refine skipL ?_)); done) | fail) | exact Ne.symm (Nat.ne_of_lt (by first | with_reducible assumption | ((refine ltC (by with_reducible assumption) ?_); (repeat (first | with_reducible exact takeL | with_reducible exact sameL | with_reducible refine skipL ?_)); done) | fail)) | omega)
  k_with "in" => first | with_reducible exact DL.none | with_reducible exact DL.bool _ | with_reducible exact DL.int _ _ | with_reducible exact DL.str _ _ | with_reducible assumption | with_reducible exact dl0 (by assumption) | with_reducible exact DLs.nil | ((with_reducible show DLs _ _ _); refine' DLs.cons (by first | kqd_in | fail) (by first | kqd_in | fail)) | (refine' dlTup (by first | k_mem | fail) (by first | (exact rfl) | fail) (by first | kqd_in | fail)) | (refine' dlLst (by first | k_mem | fail) (by first | (exact rfl) | fail) (by first | kqd_in | fail)) | fail
  k_with "all" => first | with_reducible assumption | exact OkD.le (by with_reducible assumption) (by decide) | ((refine OkD.shaped (k := 8) ?_ (by decide)); kqd_all) | with_reducible exact OkD.none | with_reducible exact OkD.bool _ | with_reducible exact OkD.int _ | ((with_reducible refine OkD.str ?_); first | with_reducible assumption | decide +kernel) | with_reducible exact OkDs.nil | ((with_reducible refine OkDs.cons ?_ ?_) <;> kqd_all) | ((with_reducible refine OkD.tuple ?_); kqd_all) | ((with_reducible refine OkD.list ?_); kqd_all) | fail
  k_with "sub" => ((try simp only [depth_under_make, depth_under_kw, depth_in1, depth_deeper, depth_caller, units_in1, units_deeper]); (try dsimp only [AR]); omega)
  k_with "call ref" => (k_here; (with_reducible show wpAny _ _ (call (Value.ref 21) [_]) _ _ _); k_dflt (refine' textf (grOf (by k_asm) (by k_asm)) (by k_asm) (by k_asm) (by first | kqd_sub | fail) (by first | kqd_sub | fail) ?_; k_whole); intro wD' we1' we2' wh' wtk' wt1' wt2' wF' wN' wl1 wl2 wl3; (try dsimp only [AllLt] at wl1 wl2 wl3); (try k_sweep))
  trivial

theorem linesCV2 : True := by
  k_with "binaryOp Mult ref int" => (k_here; (with_reducible show wpAny _ _ (binaryOp Operator.Mult (Value.ref _) (Value.int (if _ = true then 1 else 0) _)) _ _ _); k_dflt (first | (refine' KMa.mul (ws := []) (by k_asm) (by k_asm) (by first | is_list | fail) (by decide) (by decide) (by first | (exact Nat.le_of_ble_eq_true rfl) | fail) (by first | (exact rfl) | fail) ?_; k_whole) | (refine' KMa.mul (ws := [_]) (by k_asm) (by k_asm) (by first | is_list | fail) (by decide) (by decide) (by first | (exact Nat.le_of_ble_eq_true rfl) | fail) (by first | (exact rfl) | fail) ?_; k_whole)); intro wD' wh' wF' wN' wl1; (try k_lt wl1); (try k_sweep))
  trivial


theorem linesCV3 : True := by
  k_with "compareOp NotEq ref ref" => (k_here; k_dflt (refine' neSame (by k_asm) (by k_asm) (by first | kqd_in | fail) (by first | kqd_in | fail) (by first | kqd_all | fail) (by first | ktr_units | fail) ?_; k_whole))
  k_with "unf" => repeat' (first | (k_unfold; (try dsimp only)) | (w_not_for; (fail_if_success (with_reducible show wpAny _ _ (call (Value.ref 99) _) _ _ _)); (fail_if_success (with_reducible show wpAny _ _ (call (Value.ref 54) _) _ _ _)); (fail_if_success (with_reducible show wpAny _ _ (compareOp CmpOp.NotEq (Value.ref _) (Value.ref _)) _ _ _)); (fail_if_success (with_reducible show wpAny _ _ (exec (Stmt.Assign _ (PySem.Expr.BinOp _ _ _ _) _) _) _ _ _)); walk1) | (dsimp only; w_not_for; (fail_if_success (with_reducible show wpAny _ _ (call (Value.ref 99) _) _ _ _)); (fail_if_success (with_reducible show wpAny _ _ (call (Value.ref 54) _) _ _ _)); (fail_if_success (with_reducible show wpAny _ _ (compareOp CmpOp.NotEq (Value.ref _) (Value.ref _)) _ _ _)); (fail_if_success (with_reducible show wpAny _ _ (exec (Stmt.Assign _ (PySem.Expr.BinOp _ _ _ _) _) _) _ _ _)); walk1) | fail "no step")
  k_with "rel" => repeat' (first | (k_unfold; (try dsimp only)) | (w_not_for; walk1) | (dsimp only; w_not_for; walk1) | fail "no step")
  trivial

theorem valOk {x y z : Str} {pd : PyData} (oy : PyData.strOk y = true) (oz : PyData.strOk z = true) (hpd : OkD 3 pd) : OkD 8 (.tuple [.str (vdS x y z), .list (cdS pd x y z)]) := by
  have ov : PyData.strOk (vdS x y z) = true := by unfold vdS; split <;> assumption
  have oc : OkDs 6 (cdS pd x y z) := by
    unfold cdS
    split
    · exact .cons (.tuple (.cons (.str (by decide +kernel)) (.cons (hpd.le (by decide)) (.cons (.str oy) (.cons (.str oz) .nil))))) .nil
    · exact .nil
  exact .tuple (.cons (.str ov) (.cons (.list oc) .nil))
theorem newsTail {g h : Heap} {L : Addr} {a : Addr × Obj} {r : Led} (N : News g L h (a :: r)) : News g L h r := fun p hp => N p (.tail _ hp)
/-- behind the clashes that are due -/
inductive ValJ (g : Heap) (L : Addr) (M : Str → Option Value) (base : Led) (cd : List PyData) (s : Shared) (f : Flow) (s' : Shared) : Prop
  | mk (h : Heap) (tk : Nat) (lc : Addr) (tx : Led) (ef : f = .next) (es : s' = { s with heap := h, toks := tk }) (F : Fr g L h (fun y => if y = "clashes" then some (.ref lc) else M y)) (N : News g L h tx) (up : ∀ p ∈ base, p ∈ tx) (hC : DL (At g tx) (.ref lc) (.list cd))
theorem valMono {M : Model} {A : Around} {t : Sem Flow} {Q : Flow → Shared → Prop} {E : Value → Shared → Prop} {g : Heap} {L : Addr} {m : Str → Option Value} {s : Shared} {base : Led} {cd : List PyData} (_F : Fr g L s.heap m) (_N : News g L s.heap base) (h1 : wpAny M A t (ValJ g L m base cd s) E s)
    (h2 : ∀ h tk lc tx, Fr g L h (fun y => if y = "clashes" then some (.ref lc) else m y) → News g L h tx → (∀ p ∈ base, p ∈ tx) → DL (At g tx) (.ref lc) (.list cd) → Q .next { s with heap := h, toks := tk }) : wpAny M A t Q E s :=
  wpAny_mono h1 (fun f s' ⟨h, tk, lc, tx, ef, es, F, N, up, hC⟩ => by subst ef; subst es; exact h2 h tk lc tx F N up hC) fun _ _ e => e
theorem valuesRight {w : World} {dp un : Nat} {fs : Option (List Env)} {gd : Option (List Code)} {s : Shared} {Q E : Value → Shared → Prop} {h₀ : Heap} {L : Addr} {m : Str → Option Value} {news : Led} {path : Value} {pd : PyData}
    (G : Gr w h₀) (F : Fr h₀ L s.heap m) (N : News h₀ L s.heap news) (hdp : dp + 16 < recursionLimit) (hun : un + 200 < cLine) (hp : DL (At h₀ news) path pd) (hpd : OkD 3 pd)
    (ret : ∀ h' tk, Fr h₀ L h' m → News h₀ L h' news → Q (.bool true) { s with heap := h', toks := tk }) :
    wpAny (model PySem.Challenge.pw_xm0632_01 w) (AR dp un fs gd) (call (.ref 106) [path]) Q E s := by
  obtain ⟨⟨loose, mean, mg, mb, T⟩, X⟩ := G
  refine wpAny_call ?_
  refine enterS [(Str.ofString "path", path)] [] (fun _ h => nomatch h) X T F N (by k_is) (by k_is) (by omega) (BindsTo.of_eq rfl) (locs rfl) (by decide) rfl rfl rfl ?_
  intro g L' h₁ X' T' sg hAt back F' N' lt'
  replace hp := hp.up hAt
  clear F N X T
  ktr_unf
  with_reducible rename News g L' _ _ => nN
  with_reducible rename Fr g L' _ _ => nF
  refine For_turns nF (ld nF (by rfl) (turns_list (fun i m' nl => (m' "path" = some path ∧ m' "some" = some _) ∧ nl = [_]) rfl nF nN (.inr (.head _)) rfl rfl ⟨⟨rfl, rfl⟩, rfl⟩ ?_ ?_)) (fun _ => rfl)
  · clear nF nN
    rintro i1 v1 m1 nl1 hp1 tk1 I1 oI1 R1 hR1 hv1 ⟨⟨e1, e2⟩, rfl⟩ off1 hl1 F1 N1
    obtain ⟨x1, t1, rfl, ok1⟩ := some_ok hv1
    replace F1 := frSet2 F1 e1 e2
    ktr_unf
    with_reducible rename News g L' _ _ => nN
    with_reducible rename Fr g L' _ _ => nF
    refine For_turns nF (ld nF (by rfl) (turns_list (fun i m' nl => (m' "path" = some path ∧ m' "some" = some _ ∧ m' "was" = some (.str x1 t1)) ∧ nl = [_, _]) rfl nF nN (.inr (.tail _ (.head _))) rfl rfl ⟨⟨rfl, rfl, rfl⟩, rfl⟩ ?_ ?_)) (fun _ => rfl)
    · clear nF nN
      rintro i2 v2 m2 nl2 hp2 tk2 I2 oI2 R2 hR2 hv2 ⟨⟨e1, e2, e3⟩, rfl⟩ off2 hl2 F2 N2
      obtain ⟨x2, t2, rfl, ok2⟩ := some_ok hv2
      replace F2 := frSet3 F2 e1 e2 e3
      ktr_unf
      with_reducible rename News g L' _ _ => nN
      with_reducible rename Fr g L' _ _ => nF
      refine For_turns nF (ld nF (by rfl) (turns_list (fun i m' nl => (m' "path" = some path ∧ m' "some" = some _ ∧ m' "was" = some (.str x1 t1) ∧ m' "ours" = some (.str x2 t2)) ∧ nl = [_, _, _]) rfl nF nN (.inr (.tail _ (.tail _ (.head _)))) rfl rfl ⟨⟨rfl, rfl, rfl, rfl⟩, rfl⟩ ?_ ?_)) (fun _ => rfl)
      · clear nF nN
        rintro i3 v3 m3 nl3 hp3 tk3 I3 oI3 R3 hR3 hv3 ⟨⟨e1, e2, e3, e4⟩, rfl⟩ off3 hl3 F3 N3
        obtain ⟨x3, t3, rfl, ok3⟩ := some_ok hv3
        replace F3 := frSet4 F3 e1 e2 e3 e4
        have w1 : SeqAt.shaped (.str x1) = true := (OkD.str (k := 0) ok1).shaped (by decide)
        have w2 : SeqAt.shaped (.str x2) = true := (OkD.str (k := 0) ok2).shaped (by decide)
        have w3 : SeqAt.shaped (.str x3) = true := (OkD.str (k := 0) ok3).shaped (by decide)
        ktr_unf
        refine' dueV (grOf T' X') ?F7 ?N7 ?d7 ?u7 w1 w2 w3 ?_
        case F7 => k_asm
        case N7 => k_asm
        case d7 => (first | exact room hdp rfl | exact room hun rfl | (dsimp only [AR, Around.deeper]; omega))
        case u7 => (first | exact room hdp rfl | exact room hun rfl | (dsimp only [AR, Around.deeper]; omega))
        intro D7 td b h7 tk7 hb nF nN l7
        ktr_unf
        with_reducible rename News g L' _ _ => nN
        with_reducible rename Fr g L' _ _ => nF
        replace nN := newsTail nN
        clear l7
        refine valMono (cd := cdS pd x1 x2 x3) nF nN ?_ ?_
        · cases b with
          | false =>
            ktr_rel
            with_reducible rename News g L' _ _ => nN
            with_reducible rename Fr g L' _ _ => nF
            exact ⟨_, _, _, _, rfl, rfl, nF, nN, fun p hp => .tail _ (.tail _ (.tail _ hp)), by unfold cdS; rw [hb]; exact DL.list (.inr (.head _)) rfl rfl rfl .nil⟩
          | true =>
            ktr_rel
            with_reducible rename News g L' _ _ => nN
            with_reducible rename Fr g L' _ _ => nF
            exact ⟨_, _, _, _, rfl, rfl, nF, nN, fun p hp => .tail _ (.tail _ (.tail _ hp)), by unfold cdS; rw [hb]; exact DL.list (.inr (.head _)) rfl rfl rfl (.cons (DL.tuple (.inr (.tail _ (.tail _ (.head _)))) rfl rfl rfl (.cons (.str _ _) (.cons (dl0 hp) (.cons (.str _ _) (.cons (.str _ _) .nil))))) .nil)⟩
        · clear nF nN
          intro h8 tk8 lc tx nF nN up hC
          have mI3 := up _ (.head _)
          have mI2 := up _ (.tail _ (.head _))
          have mI1 := up _ (.tail _ (.tail _ (.head _)))
          have mSo := up _ (.tail _ (.tail _ (.tail _ (.head _))))
          ktr_unf
          refine' mvalX (pd := pd) (grOf T' X') ?F8 ?N8 ?d8 ?u8 ?m81 ?m82 ?m83 hp ?_
          case F8 => k_asm
          case N8 => k_asm
          case d8 => (first | exact room hdp rfl | exact room hun rfl | (dsimp only [AR, Around.deeper]; omega))
          case u8 => (first | exact room hdp rfl | exact room hun rfl | (dsimp only [AR, Around.deeper]; omega))
          case m81 => k_mem
          case m82 => k_mem
          case m83 => k_mem
          intro D2 nl h11 tk11 nF nN up2 dD
          have up3 : ∀ p ∈ tx, p ∈ nl := fun p hp => up2 p (by (repeat (with_reducible refine List.mem_cons_of_mem _ ?_)); exact hp)
          have hC2 := hC.up (At.up up3)
          clear up2
          ktr_unf
          with_reducible rename News g L' _ _ => nN
          with_reducible rename Fr g L' _ _ => nF
          refine neSame nF nN (dD.up (At.up fun p hp => .tail _ hp)) (DL.tuple (.inr (.head _)) rfl rfl rfl (.cons (.str _ _) (.cons (hC2.up (At.up fun p hp => .tail _ hp)) .nil))) (valOk ok2 ok3 hpd) (by ktr_units) ?_
          ktr_unf
          with_reducible rename News g L' _ _ => nN
          with_reducible rename Fr g L' _ _ => nF
          exact hR3 _ _ (turnEnd (.inl rfl) nF nN (.tail _ (up3 _ mI3)) (subC (.tail _ (up3 _ mI2)) (subC (.tail _ (up3 _ mI1)) (sub1 (.tail _ (up3 _ mSo))))) off3 hl3 ⟨⟨rfl, rfl, rfl, rfl⟩, rfl⟩)
      · rintro h' tk m' nl' F' N' ⟨⟨e1, e2, e3, e4⟩, rfl⟩
        dsimp only
        ktr_unf
        exact hR2 _ _ (turnEnd (.inl rfl) F' N' (by k_mem) (subC (by k_mem) (sub1 (by k_mem))) off2 hl2 ⟨⟨e1, e2, e3⟩, rfl⟩)
    · rintro h' tk m' nl' F' N' ⟨⟨e1, e2, e3⟩, rfl⟩
      dsimp only
      ktr_unf
      exact hR1 _ _ (turnEnd (.inl rfl) F' N' (by k_mem) (sub1 (by k_mem)) off1 hl1 ⟨⟨e1, e2⟩, rfl⟩)
  · rintro h' tk m' nl' F' N' ⟨⟨e1, e2⟩, rfl⟩
    dsimp only
    ktr_unf
    obtain ⟨bF, -, -, bN⟩ := back _ _ _ F' N'
    exact ret _ _ bF (fun p hp => bN (fun _ h => nomatch h) p (.tail _ hp))
end Mine
end

section
open PySem PySem.Spec PySem.W PyProof.Rows PySem.Calls PyProof.Rows.LCg
namespace Mine
section
variable {prog : Program} {w : World} {A : Around} {s : Shared} {h₀ : Heap} {L : Addr} {m : Str → Option Value} {env : Env}
/-- a comprehension's turns, by an invariant -/
theorem crest_inv {elt : PySem.Expr} {ifs : List PySem.Expr} {scope : Scope} {cl : List (Str × Addr)} {S : Led → Prop} {P : Nat → Value → Prop} {B : Value → (Str → Option Value) → Prop} {Fin : List Value → Led → Prop} {n : Nat}
    (J : Nat → List Value → Led → Prop)
    (step : ∀ i v ys nl I oI C oC D m₂ h tk (E' : Value → Shared → Prop) (R : Value → Shared → Prop) (R0 : Shared → Prop), i < n → P i v → J i ys nl → B v m₂ → NsObj oC m₂ → Fr h₀ L h m → News h₀ L h ((I, oI) :: (C, oC) :: (D, lst ys) :: nl) → Off3 I C D nl → ((@Ne Nat I C) ∧ (@Ne Nat I D) ∧ (@Ne Nat C D)) →
      (∀ y h' tk' nl', Fr h₀ L h' m → News h₀ L h' ((I, oI) :: (C, oC) :: (D, lst ys) :: nl') → Off3 I C D nl' → S nl' → J (i + 1) (ys ++ [y]) nl' → R y { s with heap := h', toks := tk' }) →
      (∀ h' tk' nl', Fr h₀ L h' m → News h₀ L h' ((I, oI) :: (C, oC) :: (D, lst ys) :: nl') → Off3 I C D nl' → S nl' → J (i + 1) ys nl' → R0 { s with heap := h', toks := tk' }) →
      wpAny (model prog w) A (tests (compEnvC scope cl C env) ifs) (fun ok s₂ => if ok = true then wpAny (model prog w) A (eval elt (compEnvC scope cl C env)) R E' s₂ else R0 s₂) E' { s with heap := h, toks := tk })
    (fin : ∀ ys nl, J n ys nl → Fin ys nl) : ∀ k i ys nl, i + k = n → J i ys nl → CRest prog w A h₀ L m env ifs elt scope cl s S P B Fin k i ys nl
  | 0, i, ys, nl, hk, hJ => fin _ _ ((by simpa using hk : i = n) ▸ hJ)
  | k + 1, i, ys, nl, hk, hJ => by
    intro v I oI C oC D m₂ h tk E' hP hB hoC F N off ne
    refine step i v ys nl I oI C oC D m₂ h tk E' _ _ (by omega) hP hJ hB hoC F N off ne (fun y h' tk' nl' F' N' off' hS' hJ' => ?_) (fun h' tk' nl' F' N' off' hS' hJ' => ?_)
    · exact ⟨h', tk', nl', rfl, F', N', off', hS', crest_inv J step fin k (i + 1) _ _ (by omega) hJ'⟩
    · exact ⟨h', tk', nl', rfl, F', N', off', hS', crest_inv J step fin k (i + 1) _ _ (by omega) hJ'⟩
theorem tests_nil {Q : Bool → Shared → Prop} {E : Value → Shared → Prop} (h : Q true s) : wpAny (model prog w) A (tests env []) Q E s := wpAny_pure h

noncomputable def TupSrc (prog : Program) (w : World) (A : Around) (h₀ : Heap) (L : Addr) (m : Str → Option Value) (env : Env) (elt target : PySem.Expr) (ifs : List PySem.Expr) (scope : Scope) (cl : List (Str × Addr)) (Q : Value → Shared → Prop) (xv : Value) (s₁ : Shared) : Prop :=
  ∃ ax its news B, xv = .ref ax ∧ Fr h₀ L s₁.heap m ∧ News h₀ L s₁.heap news ∧ TupAt h₀ ax its news ∧ its.size ≤ sizeLine ∧ Asg prog w A h₀ L m env target scope cl (TupAt h₀ ax its) (fun i v => its[i]? = some v) B its.size ∧
      ∀ g : Heap, CRest prog w A h₀ L m env ifs elt scope cl { s₁ with heap := g } (TupAt h₀ ax its) (fun i v => its[i]? = some v) B (FinE h₀ L m { s₁ with heap := g } Q) its.size 0 [] news
theorem comp_tup {E : Value → Shared → Prop} {elt target iter : PySem.Expr} {ifs : List PySem.Expr} {scope : Scope} {cl : List (Str × Addr)} {pos : Pos} {Q : Value → Shared → Prop} (_F : Fr h₀ L s.heap m) (hh : A.handled = none)
    (hclos : closureFor scope env = pure cl) (hcell : ∀ y ∈ scope.names, y.2 ≠ .cell) (hkind : scope.kind = .function)
    (hnames : ∀ y ∈ scope.names, y.2 = .local → scope.names.lookup y.1 = some .local) (hs : ∀ x, foldedSetIterable iter env x = pure x)
    (h : wpAny (model prog w) A (eval iter env) (TupSrc prog w A h₀ L m env elt target ifs scope cl Q) E s) :
    wpAny (model prog w) A (eval (.ListComp elt [⟨target, iter, ifs, 0⟩] scope pos) env) Q E s := comp_tuple hh hclos hcell hkind hnames hs h
theorem TupSrc.mk {elt target : PySem.Expr} {ifs : List PySem.Expr} {scope : Scope} {cl : List (Str × Addr)} {Q : Value → Shared → Prop} {ax : Addr} {its : Array Value} {news : Led} (B : Value → (Str → Option Value) → Prop) (F : Fr h₀ L s.heap m) (N : News h₀ L s.heap news) (hS : TupAt h₀ ax its news) (hz : its.size ≤ sizeLine)
    (ha : Asg prog w A h₀ L m env target scope cl (TupAt h₀ ax its) (fun i v => its[i]? = some v) B its.size) (R : ∀ g : Heap, CRest prog w A h₀ L m env ifs elt scope cl { s with heap := g } (TupAt h₀ ax its) (fun i v => its[i]? = some v) B (FinE h₀ L m { s with heap := g } Q) its.size 0 [] news) :
    TupSrc prog w A h₀ L m env elt target ifs scope cl Q (.ref ax) s := ⟨ax, its, news, B, rfl, F, N, hS, hz, ha, R⟩

noncomputable def LstSrc (prog : Program) (w : World) (A : Around) (h₀ : Heap) (L : Addr) (m : Str → Option Value) (env : Env) (elt target : PySem.Expr) (ifs : List PySem.Expr) (scope : Scope) (cl : List (Str × Addr)) (Q : Value → Shared → Prop) (xv : Value) (s₁ : Shared) : Prop :=
  ∃ ax its news B, xv = .ref ax ∧ Fr h₀ L s₁.heap m ∧ News h₀ L s₁.heap news ∧ SrcAt h₀ ax its news ∧ its.size ≤ sizeLine ∧ Asg prog w A h₀ L m env target scope cl (SrcAt h₀ ax its) (fun i v => its[i]? = some v) B its.size ∧
      ∀ g : Heap, CRest prog w A h₀ L m env ifs elt scope cl { s₁ with heap := g } (SrcAt h₀ ax its) (fun i v => its[i]? = some v) B (FinE h₀ L m { s₁ with heap := g } Q) its.size 0 [] news
theorem comp_lst {E : Value → Shared → Prop} {elt target iter : PySem.Expr} {ifs : List PySem.Expr} {scope : Scope} {cl : List (Str × Addr)} {pos : Pos} {Q : Value → Shared → Prop} (_F : Fr h₀ L s.heap m) (hh : A.handled = none)
    (hclos : closureFor scope env = pure cl) (hcell : ∀ y ∈ scope.names, y.2 ≠ .cell) (hkind : scope.kind = .function)
    (hnames : ∀ y ∈ scope.names, y.2 = .local → scope.names.lookup y.1 = some .local) (hs : ∀ x, foldedSetIterable iter env x = pure x)
    (h : wpAny (model prog w) A (eval iter env) (LstSrc prog w A h₀ L m env elt target ifs scope cl Q) E s) :
    wpAny (model prog w) A (eval (.ListComp elt [⟨target, iter, ifs, 0⟩] scope pos) env) Q E s := comp_list hh hclos hcell hkind hnames hs h
theorem LstSrc.mk {elt target : PySem.Expr} {ifs : List PySem.Expr} {scope : Scope} {cl : List (Str × Addr)} {Q : Value → Shared → Prop} {ax : Addr} {its : Array Value} {news : Led} (B : Value → (Str → Option Value) → Prop) (F : Fr h₀ L s.heap m) (N : News h₀ L s.heap news) (hS : SrcAt h₀ ax its news) (hz : its.size ≤ sizeLine)
    (ha : Asg prog w A h₀ L m env target scope cl (SrcAt h₀ ax its) (fun i v => its[i]? = some v) B its.size) (R : ∀ g : Heap, CRest prog w A h₀ L m env ifs elt scope cl { s with heap := g } (SrcAt h₀ ax its) (fun i v => its[i]? = some v) B (FinE h₀ L m { s with heap := g } Q) its.size 0 [] news) :
    LstSrc prog w A h₀ L m env elt target ifs scope cl Q (.ref ax) s := ⟨ax, its, news, B, rfl, F, N, hS, hz, ha, R⟩
end
end Mine
end

section
open PySem PySem.Spec PySem.W PyProof.Rows PySem.Calls PyProof.Rows.LCg
namespace Mine
/-- an object of a ledger -/
noncomputable def Of (nl : Led) (a : Addr) (o : Obj) : Prop := (a, o) ∈ nl
/-- a key: a tuple of two strs -/
noncomputable def KeyAt (A : Addr → Obj → Prop) (k : List Str) (a : Addr) : Prop := ∃ x y t u, k = [x, y] ∧ A a (tup [.str x t, .str y u]) ∧ PyData.strOk x = true ∧ PyData.strOk y = true
noncomputable abbrev keyD (k : List Str) : PyData := .tuple (k.map .str)
theorem KeyAt.up {A B : Addr → Obj → Prop} (hs : ∀ a o, A a o → B a o) {k : List Str} {a : Addr} : KeyAt A k a → KeyAt B k a := fun ⟨x, y, t, u, e, h, r⟩ => ⟨x, y, t, u, e, hs _ _ h, r⟩
theorem KeyAt.dl {A : Addr → Obj → Prop} {k : List Str} {a : Addr} : KeyAt A k a → DL A (.ref a) (keyD k) ∧ OkD 3 (keyD k) := by
  rintro ⟨x, y, t, u, rfl, h, r1, r2⟩
  exact ⟨DL.tuple h rfl rfl rfl (.cons (.str _ _) (.cons (.str _ _) .nil)), .tuple (.cons (.str r1) (.cons (.str r2) .nil))⟩
theorem isStrOf_str (x : Str) (t : Tok) : Value.isStrOf x (.str x t) = true := by simp [Value.isStrOf]
theorem KeyAt.key {prog : Program} {w : World} {g h : Heap} {L : Addr} {m : Str → Option Value} {tl : Led} {k : List Str} {a : Addr} (F : Fr g L h m) (N : News g L h tl) : KeyAt (At g tl) k a → IsTupleKey (SK prog w) h k a := by
  rintro ⟨x, y, t, u, rfl, e, -, -⟩
  exact ⟨_, _, _, At.get F N _ _ e, rfl, rfl, .cons (isStrOf_str x t) (.cons (isStrOf_str y u) .nil)⟩

noncomputable abbrev Tri := (List Str × Addr) × Str × Str
/-- triples of a key, a name and a value -/
inductive Trips (A : Addr → Obj → Prop) : List Tri → List Value → Prop
  | nil : Trips A [] []
  | cons {k : List Str} {a T : Addr} {n x : Str} {tn tx : Tok} {ts : List Tri} {ys : List Value} : A T (tup [.ref a, .str n tn, .str x tx]) → KeyAt A k a → PyData.strOk n = true → PyData.strOk x = true → Trips A ts ys → Trips A (((k, a), n, x) :: ts) (.ref T :: ys)
/-- a dict's entries: pairs of a name and a value by keys -/
inductive Ents (A : Addr → Obj → Prop) : List Tri → List Ent → Prop
  | nil : Ents A [] []
  | cons {k : List Str} {a P : Addr} {n x : Str} {tn tx : Tok} {ts : List Tri} {zs : List Ent} : A P (tup [.str n tn, .str x tx]) → Ents A ts zs → Ents A (((k, a), n, x) :: ts) ((k, a, .ref P) :: zs)
/-- refs to pairs of a key and a value -/
inductive Prs (A : Addr → Obj → Prop) : List Value → List Ent → Prop
  | nil : Prs A [] []
  | cons {T : Addr} {z : Ent} {ys : List Value} {zs : List Ent} : A T (tup [.ref z.2.1, z.2.2]) → KeyAt A z.1 z.2.1 → Prs A ys zs → Prs A (.ref T :: ys) (z :: zs)
section
variable {A B : Addr → Obj → Prop}
theorem Trips.up (hs : ∀ a o, A a o → B a o) {ts : List Tri} {ys : List Value} (h : Trips A ts ys) : Trips B ts ys := by
  induction h with
  | nil => exact .nil
  | cons h1 h2 h3 h4 _ ih => exact .cons (hs _ _ h1) (h2.up hs) h3 h4 ih
theorem Trips.length {ts : List Tri} {ys : List Value} (h : Trips A ts ys) : ts.length = ys.length := by
  induction h with
  | nil => rfl
  | cons _ _ _ _ _ ih => simp [ih]
theorem Ents.up (hs : ∀ a o, A a o → B a o) {ts : List Tri} {ys : List Ent} (h : Ents A ts ys) : Ents B ts ys := by
  induction h with
  | nil => exact .nil
  | cons h1 _ ih => exact .cons (hs _ _ h1) ih
theorem Ents.append {ts ts' : List Tri} {ys ys' : List Ent} (h : Ents A ts ys) (h' : Ents A ts' ys') : Ents A (ts ++ ts') (ys ++ ys') := by
  induction h with
  | nil => exact h'
  | cons h1 _ ih => exact .cons h1 ih
theorem Ents.length {ts : List Tri} {ys : List Ent} (h : Ents A ts ys) : ts.length = ys.length := by
  induction h with
  | nil => rfl
  | cons _ _ ih => simp [ih]
theorem Ents.keys {ts : List Tri} {ys : List Ent} (h : Ents A ts ys) : ys.map (fun z => (z.1, z.2.1)) = ts.map (·.1) := by
  induction h with
  | nil => rfl
  | cons _ _ ih => simp [ih]
/-- the keys, names and values of triples are as they should be -/
noncomputable def TripOk (A : Addr → Obj → Prop) (ts : List Tri) : Prop := ∀ t ∈ ts, KeyAt A t.1.1 t.1.2 ∧ PyData.strOk t.2.1 = true ∧ PyData.strOk t.2.2 = true
theorem Trips.ok {ts : List Tri} {ys : List Value} (h : Trips A ts ys) : TripOk A ts := by
  induction h with
  | nil => exact fun _ h => nomatch h
  | cons h1 h2 h3 h4 _ ih =>
    intro z hz
    rcases List.mem_cons.mp hz with rfl | hz
    · exact ⟨h2, h3, h4⟩
    · exact ih z hz
theorem Ents.keyAt {ts : List Tri} {ys : List Ent} (h : Ents A ts ys) (ok : TripOk B ts) : ∀ z ∈ ys, KeyAt B z.1 z.2.1 := by
  induction h with
  | nil => exact fun _ h => nomatch h
  | cons h1 _ ih =>
    intro z hz
    rcases List.mem_cons.mp hz with rfl | hz
    · exact (ok _ (.head _)).1
    · exact ih (fun t ht => ok t (.tail _ ht)) z hz
theorem Prs.up (hs : ∀ a o, A a o → B a o) {ts : List Value} {ys : List Ent} (h : Prs A ts ys) : Prs B ts ys := by
  induction h with
  | nil => exact .nil
  | cons h1 h2 _ ih => exact .cons (hs _ _ h1) (h2.up hs) ih
theorem Prs.append {ts ts' : List Value} {ys ys' : List Ent} (h : Prs A ts ys) (h' : Prs A ts' ys') : Prs A (ts ++ ts') (ys ++ ys') := by
  induction h with
  | nil => exact h'
  | cons h1 h2 _ ih => exact .cons h1 h2 ih
theorem Prs.pairs {prog : Program} {w : World} {g h : Heap} {L : Addr} {m : Str → Option Value} {tl : Led} {ys : List Value} {zs : List Ent} (F : Fr g L h m) (N : News g L h tl) (x : Prs (At g tl) ys zs) : PairsAt prog w h ys zs := by
  induction x with
  | nil => exact .nil
  | cons h1 h2 _ ih => exact .cons ⟨_, At.get F N _ _ h1, rfl, _, rfl⟩ (h2.key F N) ih
/-- the i-th triple -/
theorem Trips.at {ts : List Tri} {ys : List Value} (h : Trips A ts ys) : ∀ {i : Nat} {v : Value}, ys[i]? = some v → ∃ k a n x T tn tx, ts[i]? = some ((k, a), n, x) ∧ v = .ref T ∧ A T (tup [.ref a, .str n tn, .str x tx]) ∧ KeyAt A k a ∧ PyData.strOk n = true ∧ PyData.strOk x = true := by
  induction h with
  | nil => intro i v e; simp at e
  | cons h1 h2 h3 h4 _ ih =>
    intro i v e
    match i with
    | 0 => simp at e; subst e; exact ⟨_, _, _, _, _, _, _, rfl, rfl, h1, h2, h3, h4⟩
    | i + 1 => exact ih (i := i) (by simpa using e)
end
theorem KeyAt.upS {A B : Addr → Obj → Prop} (hs : ∀ a vs, vs.length ≤ 3 → A a (tup vs) → B a (tup vs)) {k : List Str} {a : Addr} : KeyAt A k a → KeyAt B k a := fun ⟨x, y, t, u, e, h, r⟩ => ⟨x, y, t, u, e, hs _ _ (by simp) h, r⟩
theorem Trips.upS {A B : Addr → Obj → Prop} (hs : ∀ a vs, vs.length ≤ 3 → A a (tup vs) → B a (tup vs)) {ts : List Tri} {ys : List Value} (h : Trips A ts ys) : Trips B ts ys := by
  induction h with
  | nil => exact .nil
  | cons h1 h2 h3 h4 _ ih => exact .cons (hs _ _ (Nat.le_refl _) h1) (h2.upS hs) h3 h4 ih
theorem tup_base {g : Heap} {Fm : Addr} {us : List Value} (h5 : 3 < us.length) : ∀ a vs, vs.length ≤ 3 → At g [(Fm, tup us)] a (tup vs) → At g [] a (tup vs) := by
  intro a vs hl h
  rcases h with h | h
  · exact .inl h
  · rw [List.mem_singleton] at h
    have h2 : (tup vs).data = (tup us).data := congrArg (fun p => p.2.data) h
    have h3 : vs.toArray = us.toArray := by injection h2
    have h4 : vs = us := by simpa using congrArg Array.toList h3
    rw [h4] at hl
    exact absurd h5 (Nat.not_lt.mpr hl)
theorem At.nil {g : Heap} {a : Addr} {o : Obj} (h : At g [] a o) : g.get? a = some o := h.elim id fun q => nomatch q
/-- a dict over such keys -/
noncomputable def DictO (prog : Program) (w : World) (o : Obj) (xs : List Ent) : Prop := ∃ es ep, o.ExactDict ∧ o.data = .dict es ep ∧ es.toList = xs.map (entryOfKey (TKd prog w)) ∧ (xs.map (·.1)).Nodup
theorem DictO.dict {prog : Program} {w : World} {g h : Heap} {L : Addr} {m : Str → Option Value} {tl : Led} {d : Addr} {o : Obj} {xs : List Ent} (F : Fr g L h m) (N : News g L h tl) (x : DictO prog w o xs) (hm : (d, o) ∈ tl) (hk : ∀ z ∈ xs, KeyAt (At g tl) z.1 z.2.1) : h.DictOfH (TKd prog w) d xs := by
  obtain ⟨es, ep, h1, h2, h3, h4⟩ := x
  exact ⟨o, es, ep, (N _ hm).1, h1, h2, h3, fun z hz => (hk z hz).key F N, h4⟩
theorem take_snoc {α : Type} {l : List α} {i : Nat} {x : α} (h : l[i]? = some x) : l.take (i + 1) = l.take i ++ [x] := by
  rw [List.take_add_one, h]; rfl
theorem putAll_new : ∀ (zs xs : List Ent), ((xs ++ zs).map (·.1)).Nodup → putAll zs xs = xs ++ zs
  | [], xs, _ => by simp [putAll]
  | z :: zs, xs, hn => by
    have h0 : atKey xs z.1 = none := by
      cases e : atKey xs z.1 with
      | none => rfl
      | some p =>
        exfalso
        unfold atKey at e
        cases e' : xs.find? fun x => decide (x.1 = z.1) with
        | none => rw [e'] at e; cases e
        | some q =>
          have h1 := List.find?_some e'
          have h2 := List.mem_of_find?_eq_some e'
          simp at h1
          rw [List.map_append, List.nodup_append] at hn
          exact hn.2.2 q.1 (List.mem_map_of_mem h2) z.1 (by simp) h1
    show putAll zs (storedH xs z.1 z.2.1 z.2.2) = xs ++ z :: zs
    rw [storedH_new h0]
    have := putAll_new zs (xs ++ [(z.1, z.2.1, z.2.2)]) (by simpa using hn)
    rw [this]; simp
theorem allLt_app {d : Addr} {l l' : Led} (h : AllLt d l) (h' : AllLt d l') : AllLt d (l ++ l') := by
  induction l with
  | nil => exact h'
  | cons p r ih => exact ⟨h.1, ih h.2⟩
end Mine
end

section
open PySem PySem.Spec PySem.W PyProof.Rows PySem.Calls PyProof.Rows.LCg
namespace Mine
theorem linesCB1 : True := by
  k_with_none
  k_with "ne" => (refine neN ?_; (try dsimp only); first | with_reducible assumption | with_reducible exact Ne.symm (by with_reducible assumption) | exact Nat.ne_of_lt (by first | with_reducible assumption | ((refine ltC (by with_reducible assumption) ?_); (repeat (first | with_reducible exact takeL | with_reducible exact sameL | with_reducible refine skipL ?_)); done) | fail) | exact Ne.symm (Nat.ne_of_lt (by first | with_reducible assumption | ((refine ltC (by with_reducible assumption) ?_); (repeat (first | with_reducible exact takeL | with_reducible exact sameL | with_reducible refine skipL ?_)); done) | fail)) | omega)
  k_with "unf" => repeat' (first | (k_unfold; (try dsimp only)) | ((fail_if_success (with_reducible show wpAny _ _ (eval (PySem.Expr.ListComp _ _ _ _) _) _ _ _)); (fail_if_success (with_reducible show wpAny _ _ (call (Value.type "dict") _) _ _ _)); walk1) | (dsimp only; (fail_if_success (with_reducible show wpAny _ _ (eval (PySem.Expr.ListComp _ _ _ _) _) _ _ _)); (fail_if_success (with_reducible show wpAny _ _ (call (Value.type "dict") _) _ _ _)); walk1) | fail "no step")
  trivial

theorem dictPairs {prog : Program} {w : World} {A : Around} {E : Value → Shared → Prop} {s : Shared} {g : Heap} {L : Addr} {m : Str → Option Value} {nl : Led} {Dl : Addr} {ys : List Value} {k : Nat} {zs : List Ent} {Q : Value → Shared → Prop} (hh : A.handled = none) (hu : A.units + 10 < cLine) (hbig : sysModules < g.objs.size)
    (F : Fr g L s.heap m) (N : News g L s.heap nl) (hm : (Dl, W.listOf ys.toArray k) ∈ nl) (hp : Prs (At g nl) ys zs) (hz : zs.length ≤ sizeLine)
    (h : ∀ D oD h' tk, Fr g L h' m → News g L h' ((D, oD) :: nl) → @LT.lt Nat _ L D → AllLt D nl → (D == sysModules) = false → DictO prog w oD (putAll zs []) → Q (.ref D) { s with heap := h', toks := tk }) :
    wpAny (model prog w) A (call (.type "dict") [.ref Dl]) Q E s := by
  refine dict_pairs hh hu (N _ hm).1 (hp.pairs F N) hz fun h' tk hd hk => ?_
  obtain ⟨o, es, ep, ho, r1, r2, r3, r4, r5⟩ := hd
  refine h _ o h' tk (F.keeps hk) (fun p hp => ?_) F.ns.lt (allLt_of fun p hp => Heap.lt_size (N p hp).1) (F.notModules hbig) ⟨es, ep, r1, r2, r3, r5⟩
  rcases List.mem_cons.mp hp with rfl | hp
  · exact ⟨ho, Ne.symm (Nat.ne_of_lt F.ns.lt), next_is_new F⟩
  · exact ⟨hk _ _ (N p hp).1, (N p hp).2⟩
theorem news_two {g h : Heap} {L : Addr} {a b c d e : Addr × Obj} {nl : Led} (N : News g L h (a :: b :: c :: d :: e :: nl)) : News g L h (c :: d :: e :: a :: b :: nl) := fun p hp => N p (by
  (revert hp; revert p; (repeat (refine List.forall_mem_cons.mpr ⟨by (repeat (first | with_reducible exact List.mem_cons_self | with_reducible refine List.mem_cons_of_mem _ ?_)), ?_⟩)); exact fun p hp => by ((repeat (with_reducible refine List.mem_cons_of_mem _ ?_)); exact hp)))
theorem byKey {w : World} {dp un : Nat} {fs : Option (List Env)} {gd : Option (List Code)} {s : Shared} {Q E : Value → Shared → Prop} {h₀ : Heap} {L : Addr} {m : Str → Option Value} {news : Led} {Fm Aa : Addr} {v1 v2 v3 v5 : Value} {ys : List Value} {ts : List Tri}
    (G : Gr w h₀) (F : Fr h₀ L s.heap m) (N : News h₀ L s.heap news) (hdp : dp + 16 < recursionLimit) (hun : un + 100 < cLine) (mf : (Fm, tup [v1, v2, v3, .ref Aa, v5]) ∈ news) (ha : At h₀ news Aa (tup ys)) (ht : Trips (At h₀ news) ts ys) (hn : (ts.map (fun t => t.1.1)).Nodup) (hlen : ts.length ≤ 3)
    (ret : ∀ D oD ps zs h' tk, Fr h₀ L h' m → News h₀ L h' ((D, oD) :: (news ++ ps)) → AllLt D (news ++ ps) → (D == sysModules) = false → DictO PySem.Challenge.pw_xm0632_01 w oD zs → Ents (Of ps) ts zs → Q (.ref D) { s with heap := h', toks := tk }) :
    wpAny (model PySem.Challenge.pw_xm0632_01 w) (AR dp un fs gd) (call (.ref 59) [.ref Fm]) Q E s := by
  obtain ⟨⟨loose, mean, mg, mb, T⟩, X⟩ := G
  refine wpAny_call ?_
  refine enterS [(Str.ofString "form", .ref Fm)] [(Fm, tup [v1, v2, v3, .ref Aa, v5])] (fun p h => by rw [List.mem_singleton.mp h]; exact mf) X T F N (by k_is) (by k_is) (by omega) (BindsTo.of_eq rfl) (locs rfl) (by decide) rfl rfl rfl ?_
  intro g L' h₁ X' T' sg hAt back F' N' lt'
  have hys : ys.length ≤ 3 := by rw [← ht.length]; exact hlen
  have ha' := (tup_base (by simp) _ _ hys (hAt _ _ ha)).nil
  have ht' := (ht.up hAt).upS (tup_base (by simp))
  have hN := N
  have hF := F
  clear F N X T mf ha ht
  ktr_unf
  refine comp_tup F' rfl (by rfl) (by decide) rfl (by decide) (fun _ => rfl) ?_
  ktr_unf
  refine TupSrc.mk (its := ys.toArray) (fun v m' => ∀ T a n x tn tx, v = .ref T → g.get? T = some (tup [.ref a, .str n tn, .str x tx]) → m' "key" = some (.ref a) ∧ m' "name" = some (.str n tn) ∧ m' "value" = some (.str x tx)) (by k_asm) (by k_asm) (.inl ⟨_, ha', rfl, _, rfl⟩) (by rw [sizeLine_eq]; simp; omega) (asg_three rfl rfl rfl rfl rfl (by decide) (by decide) (by decide) ?_) fun gg => ?_
  · intro i v h nw hi hP hk _ _
    obtain ⟨k, a, n, x, T, tn, tx, e1, rfl, e2, -⟩ := ht'.at (by simpa using hP)
    refine ⟨T, _, _, _, rfl, ⟨_, hk _ _ e2.nil, rfl, _, rfl⟩, fun m' q1 q2 q3 T' a' n' x' tn' tx' eT e' => ?_⟩
    cases eT
    rw [e2.nil] at e'
    cases e'
    exact ⟨q1, q2, q3⟩
  · refine crest_inv (fun i ys' nl => (Fm, tup [v1, v2, v3, .ref Aa, v5]) ∈ nl ∧ ∃ zs, Ents (Of nl) (ts.take i) zs ∧ Prs (At g nl) ys' zs) ?_ ?_ _ _ _ _ (Nat.zero_add _) ⟨.head _, [], by simpa using Ents.nil, .nil⟩
    · intro i v ys' nl I oI C oC D m₂ h tk E' R R0 hi hP hJ hB hoC F₁ N₁ off ne hR hR0
      obtain ⟨hmem, zs, hE, hPr⟩ := hJ
      obtain ⟨k, a, n, x, T, tn, tx, e1, rfl, e2, e3, e4, e5⟩ := ht'.at (by simpa using hP)
      obtain ⟨b1, b2, b3⟩ := hB _ _ _ _ _ _ rfl e2.nil
      refine tests_nil ?_
      dsimp only
      ktr_unf
      with_reducible rename News g L' _ (_ :: _ :: (I, oI) :: _) => nN
      with_reducible rename Fr g L' _ _ => nF
      have mkJ : ∀ T' P' : Addr, Ents (Of ((T', tup [.ref a, .ref P']) :: (P', tup [.str n tn, .str x tx]) :: nl)) (ts.take (i + 1)) (zs ++ [(k, a, .ref P')]) ∧ Prs (At g ((T', tup [.ref a, .ref P']) :: (P', tup [.str n tn, .str x tx]) :: nl)) (ys' ++ [.ref T']) (zs ++ [(k, a, .ref P')]) := by
        intro T' P'
        rw [take_snoc e1]
        exact ⟨(hE.up fun _ _ h => List.Mem.tail _ (.tail _ h)).append (.cons (List.Mem.tail _ (.head _)) .nil), (hPr.up (At.up fun _ h => .tail _ (.tail _ h))).append (.cons (.inr (.head _)) (e3.up (At.up fun _ h => absurd h List.not_mem_nil)) .nil)⟩
      exact hR _ _ _ _ nF (news_two nN) ⟨⟨by k_ne, by k_ne, by k_ne⟩, ⟨by k_ne, by k_ne, by k_ne⟩, off⟩ (.inl ⟨_, ha', rfl, _, rfl⟩) ⟨.tail _ (.tail _ hmem), _, mkJ _ _⟩
    · rintro ys' nl ⟨hmem, zs, hE, hPr⟩ Dl h tk F₁ N₁ o1
      dsimp only
      ktr_unf
      refine dictPairs (k := ys'.length) rfl (by show _ < _; (first | exact room hdp rfl | exact room hun rfl | (dsimp only [AR, Around.deeper]; omega))) (modules_low T'.nolimit) F₁ N₁ (.head _) (hPr.up (At.up fun _ h => .tail _ h)) (by rw [← hE.length]; simp; rw [sizeLine_eq]; omega) fun D oD h' tk' F₂ N₂ hDl lt₂ lo hD => ?_
      have hfull : ts.take ys.toArray.size = ts := by rw [List.take_of_length_le]; simp [ht'.length]
      rw [hfull] at hE
      have hnz : (zs.map (·.1)).Nodup := by
        have e := congrArg (List.map Prod.fst) hE.keys
        simp only [List.map_map] at e
        have e2 : zs.map (·.1) = ts.map (fun t => t.1.1) := e
        rw [e2]; exact hn
      rw [putAll_new zs [] (by simpa using hnz), List.nil_append] at hD
      obtain ⟨bF, -, -, bN⟩ := back _ _ _ F₂ N₂
      have bN' := bN (fun q hq => by rw [List.mem_singleton.mp hq]; exact .tail _ (.tail _ hmem))
      refine ret D oD nl zs h' tk' bF (fun p hp => bN' p ?_) (allLt_app (allLt_of fun p hp => Nat.lt_trans (lt' p hp) hDl) lt₂.2) lo hD ?_
      · rcases List.mem_cons.mp hp with rfl | hp
        · exact List.mem_append_left _ (.head _)
        · rcases List.mem_append.mp hp with hp | hp
          · exact List.mem_append_right _ hp
          · exact List.mem_append_left _ (.tail _ (.tail _ hp))
      · exact hE
end Mine
end

section
open PySem PySem.Spec PySem.W PyProof.Rows PySem.Calls PyProof.Rows.LCg
namespace Mine
section
variable {prog : Program} {w : World} {A : Around} {E : Value → Shared → Prop} {s : Shared}
/-- sorted of a dict of at most three known keys -/
theorem sortedKeys {h₀ : Heap} {L : Addr} {m : Str → Option Value} {news : Led} {d : Addr} {o : Obj} {xs : List Ent} {ka kb kc : List Str} {Q : Value → Shared → Prop} (hh : A.handled = none) (F : Fr h₀ L s.heap m) (N : News h₀ L s.heap news) (lo : (d == sysModules) = false)
    (hm : (d, o) ∈ news) (hD : DictO prog w o xs) (hk : ∀ z ∈ xs, KeyAt (At h₀ news) z.1 z.2.1) (h3 : K3 ka kb kc) (hin : ∀ z ∈ xs, KIn ka kb kc z.1) (hlen : xs.length ≤ 3)
    (h : ∀ (D : Addr) c h' tk, Fr h₀ L h' m → News h₀ L h' ((D, W.listOf (inOrder ka kb kc xs).toArray c) :: news) → AllLt D news → Q (.ref D) { s with heap := h', toks := tk }) :
    wpAny (model prog w) A (call (.builtin "sorted") [.ref d]) Q E s := by
  obtain ⟨es, ep, r1, r2, r3, r4⟩ := hD
  have hes : es.size = xs.length := size_of_entries r3
  refine sorted_dict hh F N lo hm r1 r2 (by rw [hes, sizeLine_eq]; omega) fun D h' tk F' N' lt => ?_
  have hkeys : es.toList.map (·.key) = xs.map fun z => Value.ref z.2.1 := by rw [r3, List.map_map]; rfl
  rw [hkeys] at N'
  have hmD := (N' _ (.head _)).1
  have keyIn : ∀ s' : Shared, (∀ b o, b ≠ D → h'.get? b = some o → s'.heap.get? b = some o) → ∀ z ∈ xs, IsTupleKey (SK prog w) s'.heap z.1 z.2.1 := fun s' hs' z hz => by
    obtain ⟨x, y, t, u, e1, e2, -⟩ := hk z hz
    have e3 := At.get F' (fun p hp => N' p (.tail _ hp)) _ _ e2
    have hne : z.2.1 ≠ D := fun q => by
      rw [q, hmD] at e3
      have := congrArg (Option.map Obj.cls) e3
      exact absurd this (by simp [W.listOf])
    exact ⟨_, _, _, hs' _ _ hne e3, rfl, rfl, by rw [e1]; exact .cons (isStrOf_str x t) (.cons (isStrOf_str y u) .nil)⟩
  refine wpAny_call_entry slot_list_sort ⟨_, hmD, rfl⟩ entry_list_sort (sort_tree (vs := xs.map fun z => Value.ref z.2.1) (κ := tuples' true) (lt := ltR (xs.map fun z => rk ka kb z.1)) (out := inOrder ka kb kc xs) hmD (by simp; omega) ?_ ?_ ?_ ?_ ?_) (args_list_sort _)
  · intro h2 s' hs' Q' hq
    obtain ⟨fs, k1, k2, k3⟩ := kind_keys (xs := xs) (h := s'.heap) fun z hz => ⟨by obtain ⟨x, y, t, u, e1, -⟩ := hk z hz; rw [e1]; simp, keyIn s' hs' z hz⟩
    exact kat_kind (T := .type "str") k1 (by rw [k2]; simp at h2; omega) (fun v hv => by obtain ⟨x, t, rfl⟩ := k3 v hv; exact looks_str) (by decide) hq
  · intro s' hs' i j C hi hj hne hc
    rw [List.length_map] at hi hj
    have gi : ∀ k (h : k < xs.length), (xs.map fun z => Value.ref z.2.1).getD k Value.none = .ref (xs[k]).2.1 := fun k h => by simp [List.getD, h]
    have ri : ∀ k (h : k < xs.length), (xs.map fun z => rk ka kb z.1).getD k 0 = rk ka kb (xs[k]).1 := fun k h => by simp [List.getD, h]
    unfold kas_ask
    rw [gi i hi, gi j hj]
    refine ask_keys (keyIn s' hs' _ (List.getElem_mem hi)) (keyIn s' hs' _ (List.getElem_mem hj)) ?_
    have hx : xs[i].1 ≠ xs[j].1 := fun q => by
      have hi' : i < (xs.map (·.1)).length := by simpa using hi
      have hj' : j < (xs.map (·.1)).length := by simpa using hj
      exact hne ((List.getElem_inj (h₀ := hi') (h₁ := hj') r4).mp (by simpa using q))
    rw [h3.lt (hin _ (List.getElem_mem hi)) (hin _ (List.getElem_mem hj)) hx]
    unfold ltR at hc
    rw [ri i hi, ri j hj] at hc
    exact hc
  · exact (order_ok h3 r4 hin).1
  · rw [order_len h3 r4 hin, List.length_map]
  · intro h2 c hk2 hD2
    refine ⟨_, rfl, h D c h2 _ ⟨F'.ns.at' fun o e => hk2 _ o (Ne.symm (N' _ (.head _)).2.1) e, fun b o e => hk2 b o (fun q => by rw [q, (N' _ (.head _)).2.2] at e; cases e) (F'.keep b o e), F'.above⟩ (fun p hp => ?_) (allLt_of lt)⟩
    rcases List.mem_cons.mp hp with rfl | hp
    · exact ⟨hD2, (N' _ (.head _)).2⟩
    · exact ⟨hk2 _ _ (Nat.ne_of_lt (lt p hp)) (N' p (.tail _ hp)).1, (N' p (.tail _ hp)).2⟩
end
end Mine
end

section
open PySem PySem.Spec PySem.W PyProof.Rows PySem.Calls PyProof.Rows.LCg
namespace Mine
noncomputable abbrev Cel := Option (Str × Str)
noncomputable abbrev Key := List Str × Addr
noncomputable def opT (k : Key) : Cel → List Tri
  | none => []
  | some (n, x) => [(k, n, x)]
noncomputable def triOf (ka kb kc : Key) (a b c : Cel) : List Tri := opT ka a ++ (opT kb b ++ opT kc c)
noncomputable def celD : Cel → PyData
  | none => .none
  | some (n, x) => .tuple [.str n, .str x]
/-- a cell: none or a pair -/
noncomputable def CelAt (A : Addr → Obj → Prop) (v : Value) : Cel → Prop
  | none => v = .none
  | some (n, x) => ∃ P tn tx, v = .ref P ∧ A P (tup [.str n tn, .str x tx])
noncomputable def CelOk : Cel → Prop
  | none => True
  | some (n, x) => PyData.strOk n = true ∧ PyData.strOk x = true
theorem CelAt.up {A B : Addr → Obj → Prop} (hs : ∀ a o, A a o → B a o) {v : Value} : ∀ {c : Cel}, CelAt A v c → CelAt B v c
  | none, h => h
  | some (_, _), ⟨P, tn, tx, e, h⟩ => ⟨P, tn, tx, e, hs _ _ h⟩
theorem CelAt.dl {A : Addr → Obj → Prop} {v : Value} : ∀ {c : Cel}, CelAt A v c → DL A v (celD c)
  | none, h => by cases h; exact .none
  | some (_, _), ⟨P, tn, tx, e, h⟩ => by subst e; exact DL.tuple h rfl rfl rfl (.cons (.str _ _) (.cons (.str _ _) .nil))
theorem CelOk.ok : ∀ {c : Cel}, CelOk c → OkD 3 (celD c)
  | none, _ => OkD.none
  | some (_, _), ⟨h1, h2⟩ => .tuple (.cons (.str h1) (.cons (.str h2) .nil))
theorem ceq (c d : Cel) : PyData.eqv (celD c) (celD d) = decide (c = d) := by
  match c, d with
  | none, none => rfl
  | none, some (_, _) => rfl
  | some (_, _), none => rfl
  | some (n, x), some (n', x') =>
    have : PyData.eqv (celD (some (n, x))) (celD (some (n', x'))) = ((n == n') && ((x == x') && true)) := rfl
    rw [this]
    by_cases h1 : n = n' <;> by_cases h2 : x = x' <;> simp [h1, h2]
section
variable {A : Addr → Obj → Prop} {ka kb kc : List Str} {Ka Kb Kc : Addr} {a b c : Cel} {zs : List Ent}
theorem triOf_nodup (h : K3 ka kb kc) : ((triOf (ka, Ka) (kb, Kb) (kc, Kc) a b c).map (fun t => t.1.1)).Nodup := by
  have ab := h.ab
  have ac := h.ac
  have bc := h.bc
  match a, b, c with
  | none, none, none => simp [triOf, opT]
  | none, none, some (_, _) => simp [triOf, opT]
  | none, some (_, _), none => simp [triOf, opT]
  | none, some (_, _), some (_, _) => simp [triOf, opT, bc]
  | some (_, _), none, none => simp [triOf, opT]
  | some (_, _), none, some (_, _) => simp [triOf, opT, ac]
  | some (_, _), some (_, _), none => simp [triOf, opT, ab]
  | some (_, _), some (_, _), some (_, _) => simp [triOf, opT, ab, ac, bc]
theorem opT_len (k : Key) (c : Cel) : (opT k c).length ≤ 1 := by
  match c with
  | none => simp [opT]
  | some (_, _) => simp [opT]
theorem triOf_len : (triOf (ka, Ka) (kb, Kb) (kc, Kc) a b c).length ≤ 3 := by
  have h1 := opT_len (ka, Ka) a
  have h2 := opT_len (kb, Kb) b
  have h3 := opT_len (kc, Kc) c
  unfold triOf
  simp only [List.length_append]
  omega
theorem opT_in {k : Key} {c : Cel} {t : Tri} (h : t ∈ opT k c) : t.1 = k ∧ c = some t.2 := by
  match c with
  | none => cases h
  | some (n, x) =>
    cases h with
    | head => exact ⟨rfl, rfl⟩
    | tail _ h => cases h
theorem triOf_in {t : Tri} (h : t ∈ triOf (ka, Ka) (kb, Kb) (kc, Kc) a b c) : KIn ka kb kc t.1.1 := by
  unfold triOf at h
  rcases List.mem_append.mp h with h | h
  · exact .inl (congrArg Prod.fst (opT_in h).1)
  · rcases List.mem_append.mp h with h | h
    · exact .inr (.inl (congrArg Prod.fst (opT_in h).1))
    · exact .inr (.inr (congrArg Prod.fst (opT_in h).1))
theorem ent1 {k : Key} {c : Cel} {ts : List Tri} (h : Ents A (opT k c ++ ts) zs) : ∃ zs', Ents A ts zs' ∧ ((c = none ∧ zs = zs') ∨ ∃ n x P tn tx, c = some (n, x) ∧ A P (tup [.str n tn, .str x tx]) ∧ zs = (k.1, k.2, .ref P) :: zs') := by
  match c, h with
  | none, h => exact ⟨zs, h, .inl ⟨rfl, rfl⟩⟩
  | some (n, x), h =>
    obtain ⟨k1, k2⟩ := k
    have h' : Ents A (((k1, k2), n, x) :: ts) zs := h
    cases h' with
    | cons h1 h2 => exact ⟨_, h2, .inr ⟨n, x, _, _, _, rfl, h1, rfl⟩⟩
theorem stepOther {k : Key} {c : Cel} {zs zs' : List Ent} {k' : List Str} (r : (c = none ∧ zs = zs') ∨ ∃ n x P tn tx, c = some (n, x) ∧ A P (tup [.str n tn, .str x tx]) ∧ zs = (k.1, k.2, .ref P) :: zs') (ne : k.1 ≠ k') : atKey zs k' = atKey zs' k' := by
  rcases r with ⟨-, rfl⟩ | ⟨_, _, _, _, _, -, -, rfl⟩
  · rfl
  · unfold atKey
    rw [List.find?_cons, decide_eq_false ne]
theorem stepSelf {k : Key} {c : Cel} {zs zs' : List Ent} (r : (c = none ∧ zs = zs') ∨ ∃ n x P tn tx, c = some (n, x) ∧ A P (tup [.str n tn, .str x tx]) ∧ zs = (k.1, k.2, .ref P) :: zs') (no : atKey zs' k.1 = none) : CelAt A (((atKey zs k.1).map (·.2)).getD .none) c := by
  rcases r with ⟨rfl, rfl⟩ | ⟨_, _, _, _, _, rfl, m, rfl⟩
  · rw [no]; rfl
  · unfold atKey
    rw [List.find?_cons, decide_eq_true rfl]
    exact ⟨_, _, _, rfl, m⟩
theorem celLook (h3 : K3 ka kb kc) (h : Ents A (triOf (ka, Ka) (kb, Kb) (kc, Kc) a b c) zs) :
    CelAt A (((atKey zs ka).map (·.2)).getD .none) a ∧ CelAt A (((atKey zs kb).map (·.2)).getD .none) b ∧ CelAt A (((atKey zs kc).map (·.2)).getD .none) c := by
  unfold triOf at h
  obtain ⟨z1, h1, r1⟩ := ent1 h
  obtain ⟨z2, h2, r2⟩ := ent1 h1
  have h2' : Ents A (opT (kc, Kc) c ++ []) z2 := by rw [List.append_nil]; exact h2
  obtain ⟨z3, h4, r3⟩ := ent1 h2'
  cases h4
  refine ⟨stepSelf r1 ((stepOther r2 h3.ab.symm).trans (stepOther r3 h3.ac.symm)), ?_, ?_⟩
  · rw [stepOther r1 h3.ab]
    exact stepSelf r2 (stepOther r3 h3.bc.symm)
  · rw [stepOther r1 h3.ac, stepOther r2 h3.bc]
    exact stepSelf r3 rfl
end
/-- the first address of a key -/
noncomputable def look (l : List Key) (k : List Str) : Option Addr := (l.find? fun z => z.1 == k).map (·.2)
noncomputable abbrev kl (z : Ent) : Key := (z.1, z.2.1)
theorem look_append (l l' : List Key) (k : List Str) : look (l ++ l') k = (look l k).or (look l' k) := by
  unfold look
  rw [List.find?_append, Option.map_or]
theorem look_atKey (xs : List Ent) (k : List Str) : (atKey xs k).isSome = (look (xs.map kl) k).isSome := by
  unfold atKey look
  rw [List.find?_map]
  simp only [Option.isSome_map]
  have : (fun x : Ent => decide (x.1 = k)) = (fun z : Key => z.1 == k) ∘ kl := by
    funext x
    by_cases h : x.1 = k <;> simp [h]
  rw [this]
theorem look_stored (xs : List Ent) (k : List Str) (a : Addr) (v : Value) (k' : List Str) : look ((storedH xs k a v).map kl) k' = (look (xs.map kl) k').or (look [(k, a)] k') := by
  unfold storedH
  split
  · rename_i h
    have e : (xs.map (putAt k v)).map kl = xs.map kl := by
      rw [List.map_map]
      apply List.map_congr_left
      rintro ⟨z1, z2, z3⟩ _
      simp only [Function.comp, putAt]
      split <;> rfl
    rw [e]
    rw [look_atKey] at h
    by_cases q : k = k'
    · subst q
      obtain ⟨b, hb⟩ := Option.isSome_iff_exists.mp h
      rw [hb]; rfl
    · have : look [(k, a)] k' = none := by simp [look, q]
      rw [this, Option.or_none]
  · rw [List.map_append, look_append]; rfl
theorem look_putAll : ∀ (zs xs : List Ent) (k : List Str), look ((putAll zs xs).map kl) k = (look (xs.map kl) k).or (look (zs.map kl) k)
  | [], xs, k => by simp [putAll, look]
  | z :: zs, xs, k => by
    show look ((putAll zs (storedH xs z.1 z.2.1 z.2.2)).map kl) k = _
    rw [look_putAll, look_stored, Option.or_assoc, List.map_cons, show (kl z :: zs.map kl) = [kl z] ++ zs.map kl from rfl, look_append]
theorem inOrder_look (ka kb kc : List Str) (xs : List Ent) : inOrder ka kb kc xs = [ka, kb, kc].filterMap fun k => (look (xs.map kl) k).map Value.ref := by
  unfold inOrder look
  congr 1
  funext k
  rw [List.find?_map, Option.map_map, Option.map_map]
  rfl
section
variable {ka kb kc : List Str} {Ka Kb Kc : Addr}
theorem look_tri (h3 : K3 ka kb kc) (a b c : Cel) : look ((triOf (ka, Ka) (kb, Kb) (kc, Kc) a b c).map (·.1)) ka = (if a.isSome then some Ka else none) ∧ look ((triOf (ka, Ka) (kb, Kb) (kc, Kc) a b c).map (·.1)) kb = (if b.isSome then some Kb else none) ∧ look ((triOf (ka, Ka) (kb, Kb) (kc, Kc) a b c).map (·.1)) kc = (if c.isSome then some Kc else none) := by
  have ab := h3.ab
  have ac := h3.ac
  have bc := h3.bc
  have ba := h3.ab.symm
  have ca := h3.ac.symm
  have cb := h3.bc.symm
  match a, b, c with
  | none, none, none => simp [triOf, opT, look]
  | none, none, some (_, _) => simp [triOf, opT, look, ab, ac, bc, ba, ca, cb]
  | none, some (_, _), none => simp [triOf, opT, look, ab, ac, bc, ba, ca, cb]
  | none, some (_, _), some (_, _) => simp [triOf, opT, look, ab, ac, bc, ba, ca, cb]
  | some (_, _), none, none => simp [triOf, opT, look, ab, ac, bc, ba, ca, cb]
  | some (_, _), none, some (_, _) => simp [triOf, opT, look, ab, ac, bc, ba, ca, cb]
  | some (_, _), some (_, _), none => simp [triOf, opT, look, ab, ac, bc, ba, ca, cb]
  | some (_, _), some (_, _), some (_, _) => simp [triOf, opT, look, ab, ac, bc, ba, ca, cb]
noncomputable abbrev Rec := Key × Cel × Cel × Cel
noncomputable def Rec.here (r : Rec) : Bool := r.2.1.isSome || (r.2.2.1.isSome || r.2.2.2.isSome)
noncomputable def recs (l : List Rec) : List Rec := l.filter Rec.here
theorem recs_nil : recs [] = [] := rfl
theorem fm3 (f : List Str → Option Value) (a b c : List Str) : [a, b, c].filterMap f = (f a).toList ++ ((f b).toList ++ (f c).toList) := by
  cases h1 : f a <;> cases h2 : f b <;> cases h3 : f c <;> simp [h1, h2, h3]
theorem fl3 (p : Rec → Bool) (g : Rec → Value) (a b c : Rec) : ([a, b, c].filter p).map g = (if p a = true then [g a] else []) ++ ((if p b = true then [g b] else []) ++ (if p c = true then [g c] else [])) := by
  cases h1 : p a <;> cases h2 : p b <;> cases h3 : p c <;> simp [h1, h2, h3]
theorem opt3 (x : Bool) (K : Addr) : ((if x = true then some K else none).map Value.ref).toList = if x = true then [Value.ref K] else [] := by
  cases x <;> rfl
/-- the sorted keys are those of the records -/
theorem order_union (h3 : K3 ka kb kc) {b0 b1 b2 o0 o1 o2 t0 t1 t2 : Cel} {allz : List Ent}
    (e : allz.map kl = ((triOf (ka, Ka) (kb, Kb) (kc, Kc) b0 b1 b2 ++ triOf (ka, Ka) (kb, Kb) (kc, Kc) o0 o1 o2) ++ triOf (ka, Ka) (kb, Kb) (kc, Kc) t0 t1 t2).map (·.1)) :
    inOrder ka kb kc (putAll allz []) = (List.filter Rec.here [((ka, Ka), b0, o0, t0), ((kb, Kb), b1, o1, t1), ((kc, Kc), b2, o2, t2)]).map fun r => Value.ref r.1.2 := by
  rw [inOrder_look]
  have hl : ∀ k, look ((putAll allz []).map kl) k = ((look ((triOf (ka, Ka) (kb, Kb) (kc, Kc) b0 b1 b2).map (·.1)) k).or (look ((triOf (ka, Ka) (kb, Kb) (kc, Kc) o0 o1 o2).map (·.1)) k)).or (look ((triOf (ka, Ka) (kb, Kb) (kc, Kc) t0 t1 t2).map (·.1)) k) := fun k => by
    rw [look_putAll, e, List.map_append, List.map_append, look_append, look_append]
    rfl
  obtain ⟨p1, p2, p3⟩ := look_tri (Ka := Ka) (Kb := Kb) (Kc := Kc) h3 b0 b1 b2
  obtain ⟨q1, q2, q3⟩ := look_tri (Ka := Ka) (Kb := Kb) (Kc := Kc) h3 o0 o1 o2
  obtain ⟨r1, r2, r3⟩ := look_tri (Ka := Ka) (Kb := Kb) (Kc := Kc) h3 t0 t1 t2
  have one : ∀ (x y z : Bool) (K : Addr), (((if x = true then some K else none).or (if y = true then some K else none)).or (if z = true then some K else none)) = if (x || (y || z)) = true then some K else none := by
    intro x y z K; cases x <;> cases y <;> cases z <;> rfl
  rw [fm3, hl, hl, hl, p1, p2, p3, q1, q2, q3, r1, r2, r3, one, one, one, opt3, opt3, opt3, fl3]
  rfl
theorem putAll_keys {allz : List Ent} : ∀ (xs : List Ent), ∀ z ∈ putAll allz xs, (∃ y ∈ xs, y.1 = z.1 ∧ y.2.1 = z.2.1) ∨ ∃ y ∈ allz, y.1 = z.1 ∧ y.2.1 = z.2.1 := by
  induction allz with
  | nil => exact fun xs z hz => .inl ⟨z, hz, rfl, rfl⟩
  | cons y zs ih =>
    intro xs z hz
    rcases ih (storedH xs y.1 y.2.1 y.2.2) z hz with ⟨q, hq, e1, e2⟩ | ⟨q, hq, e1, e2⟩
    · unfold storedH at hq
      split at hq
      · obtain ⟨q', hq', rfl⟩ := List.mem_map.mp hq
        refine .inl ⟨q', hq', ?_⟩
        rw [← e1, ← e2]
        unfold putAt
        split <;> exact ⟨rfl, rfl⟩
      · rcases List.mem_append.mp hq with hq | hq
        · exact .inl ⟨q, hq, e1, e2⟩
        · rw [List.mem_singleton.mp hq] at e1 e2
          exact .inr ⟨y, .head _, e1, e2⟩
    · exact .inr ⟨q, .tail _ hq, e1, e2⟩
end
noncomputable def toldC (r : Rec) : Cel := if r.2.2.1 = r.2.1 then r.2.2.2 else r.2.2.1
noncomputable def foundD (r : Rec) : List PyData := match toldC r with
  | none => []
  | some (n, x) => [.tuple [keyD r.1.1, .str n, .str x]]
noncomputable def clashD (pd : PyData) (r : Rec) : List PyData := if r.2.2.1 ≠ r.2.1 ∧ r.2.2.2 ≠ r.2.1 ∧ r.2.2.1 ≠ r.2.2.2 then [.tuple [.str "attribute", pd, keyD r.1.1, celD r.2.2.1, celD r.2.2.2]] else []
theorem foundD_none {r : Rec} (h : toldC r = none) : foundD r = [] := by unfold foundD; rw [h]
theorem foundD_some {r : Rec} {n x : Str} (h : toldC r = some (n, x)) : foundD r = [.tuple [keyD r.1.1, .str n, .str x]] := by unfold foundD; rw [h]
noncomputable def mergedD (pd : PyData) (l : List Rec) : PyData := .tuple [.tuple (l.flatMap foundD), .list (l.flatMap (clashD pd))]
theorem mergedD_recs (pd : PyData) (l : List Rec) : mergedD pd (recs l) = mergedD pd l := by
  have h : ∀ (f : Rec → List PyData), (∀ r, r.here = false → f r = []) → (recs l).flatMap f = l.flatMap f := by
    intro f hf
    induction l with
    | nil => rfl
    | cons r l ih =>
      unfold recs at ih ⊢
      cases e : r.here with
      | true => rw [List.filter_cons_of_pos e, List.flatMap_cons, List.flatMap_cons, ih]
      | false => rw [List.filter_cons_of_neg (by simp [e]), List.flatMap_cons, hf r e, ih]; rfl
  have hh : ∀ r : Rec, r.here = false → r.2.1 = none ∧ r.2.2.1 = none ∧ r.2.2.2 = none := by
    rintro ⟨k, a, b, c⟩ h
    simpa [Rec.here] using h
  unfold mergedD
  rw [h foundD, h (clashD pd)]
  · intro r hr
    obtain ⟨h1, h2, h3⟩ := hh r hr
    simp [clashD, h1, h2, h3]
  · intro r hr
    obtain ⟨h1, h2, h3⟩ := hh r hr
    exact foundD_none (by simp [toldC, h1, h2, h3])
end Mine
end

section
open PySem PySem.Spec PySem.W PyProof.Rows PySem.Calls PyProof.Rows.LCg
namespace Mine
theorem linesCM21 : True := by
  k_with_none
  k_with "ne" => (refine neN ?_; (try dsimp only); first | with_reducible assumption | with_reducible exact Ne.symm (by with_reducible assumption) | exact Nat.ne_of_lt (by first | with_reducible assumption | ((refine ltC (by with_reducible assumption) ?_); (repeat (first | with_reducible exact takeL | with_reducible exact sameL | with_reducible refine skipL ?_)); done) | fail) | exact Ne.symm (Nat.ne_of_lt (by first | with_reducible assumption | ((refine ltC (by with_reducible assumption) ?_); (repeat (first | with_reducible exact takeL | with_reducible exact sameL | with_reducible refine skipL ?_)); done) | fail)) | omega)
  k_with "unf" => repeat' (first | (k_unfold; (try dsimp only)) | ((try dsimp only); w_not_for; (fail_if_success (with_reducible show wpAny _ _ (eval (PySem.Expr.ListComp _ _ _ _) _) _ _ _)); (fail_if_success (with_reducible show wpAny _ _ (call (Value.type "dict") _) _ _ _)); (fail_if_success (with_reducible show wpAny _ _ (call (Value.type "list") _) _ _ _)); (fail_if_success (with_reducible show wpAny _ _ (call (Value.type "tuple") _) _ _ _)); (fail_if_success (with_reducible show wpAny _ _ (call (Value.builtin "sorted") _) _ _ _)); (fail_if_success (with_reducible show wpAny _ _ (call (Value.ref 59) _) _ _ _)); (fail_if_success (with_reducible show wpAny _ _ (binaryOp Operator.Add (Value.ref _) (Value.ref _)) _ _ _)); (first | (fail_if_success (with_reducible show wpAny _ _ (compareOp CmpOp.IsNot _ _) _ _ _)) | (with_reducible show wpAny _ _ (compareOp CmpOp.IsNot (Value.ref _) _) _ _ _) | (with_reducible show wpAny _ _ (compareOp CmpOp.IsNot Value.none _) _ _ _)); (fail_if_success (with_reducible show wpAny _ _ (call (Value.builtin "dict.get") _) _ _ _)); walk1) | fail "no step")
  k_with "rel" => repeat' (first | (k_unfold; (try dsimp only)) | ((try dsimp only); w_not_for; (fail_if_success (with_reducible show wpAny _ _ (exec (Stmt.Assign _ (PySem.Expr.IfExp _ _ _ _) _) _) _ _ _)); (fail_if_success (with_reducible show wpAny _ _ (exec (Stmt.If _ _ _ _) _) _ _ _)); (fail_if_success (with_reducible show wpAny _ _ (eval (PySem.Expr.ListComp _ _ _ _) _) _ _ _)); (fail_if_success (with_reducible show wpAny _ _ (call (Value.type "dict") _) _ _ _)); (fail_if_success (with_reducible show wpAny _ _ (call (Value.type "list") _) _ _ _)); (fail_if_success (with_reducible show wpAny _ _ (call (Value.type "tuple") _) _ _ _)); (fail_if_success (with_reducible show wpAny _ _ (call (Value.builtin "sorted") _) _ _ _)); (fail_if_success (with_reducible show wpAny _ _ (call (Value.ref 59) _) _ _ _)); (fail_if_success (with_reducible show wpAny _ _ (binaryOp Operator.Add (Value.ref _) (Value.ref _)) _ _ _)); (first | (fail_if_success (with_reducible show wpAny _ _ (compareOp CmpOp.IsNot _ _) _ _ _)) | (with_reducible show wpAny _ _ (compareOp CmpOp.IsNot (Value.ref _) _) _ _ _) | (with_reducible show wpAny _ _ (compareOp CmpOp.IsNot Value.none _) _ _ _)); (fail_if_success (with_reducible show wpAny _ _ (call (Value.builtin "dict.get") _) _ _ _)); walk1) | fail "no step")
  trivial

theorem news_one {g h : Heap} {L : Addr} {a c d e : Addr × Obj} {nl : Led} (N : News g L h (a :: c :: d :: e :: nl)) : News g L h (c :: d :: e :: a :: nl) := fun p hp => N p (by
  (revert hp; revert p; (repeat (refine List.forall_mem_cons.mpr ⟨by (repeat (first | with_reducible exact List.mem_cons_self | with_reducible refine List.mem_cons_of_mem _ ?_)), ?_⟩)); exact fun p hp => by ((repeat (with_reducible refine List.mem_cons_of_mem _ ?_)); exact hp)))
noncomputable def SubL (a b : Led) : Prop := ∀ p ∈ a, p ∈ b
theorem SubL.tail {p : Addr × Obj} {a b : Led} (h : SubL a b) : SubL a (p :: b) := fun q hq => .tail _ (h q hq)
noncomputable def AtA (h₀ : Heap) (news tl : Led) (a : Addr) (o : Obj) : Prop := At h₀ news a o ∨ (a, o) ∈ tl
theorem AtA.up {h₀ : Heap} {news tl tl' : Led} (hs : ∀ p ∈ tl, p ∈ tl') : ∀ a o, AtA h₀ news tl a o → AtA h₀ news tl' a o := fun _ _ x => x.imp id (hs _)
theorem celCmp {prog : Program} {w : World} {A : Around} {E : Value → Shared → Prop} {s : Shared} {g : Heap} {L : Addr} {m : Str → Option Value} {nl rest : Led} {a b : Value} {c d : Cel} {Q : Value → Shared → Prop} (F : Fr g L s.heap m) (N : News g L s.heap nl)
    (x : CelAt (Of rest) a c) (y : CelAt (Of rest) b d) (o1 : CelOk c) (o2 : CelOk d) (S : SubL rest nl) (hu : A.units + 64 < cLine) :
    (Q (.bool (decide (c = d))) s → wpAny (model prog w) A (compareOp .Eq a b) Q E s) ∧ (Q (.bool (!decide (c = d))) s → wpAny (model prog w) A (compareOp .NotEq a b) Q E s) := by
  have x' : CelAt (At g nl) a c := x.up fun _ _ h => .inr (S _ h)
  have y' : CelAt (At g nl) b d := y.up fun _ _ h => .inr (S _ h)
  refine ⟨fun h => eqDL F N x'.dl y'.dl (o1.ok.shaped (by decide)) (o2.ok.shaped (by decide)) hu (by rw [ceq]; exact h), fun h => neDL F N x'.dl y'.dl (o1.ok.shaped (by decide)) (o2.ok.shaped (by decide)) hu (by rw [ceq]; exact h)⟩
theorem linesCM22 : True := by
  k_with "sub" => repeat' (first | with_reducible assumption | with_reducible refine SubL.tail ?_)
  k_with "compareOp Eq" => (k_here; k_dflt (refine' (celCmp (by k_asm) (by k_asm) (by with_reducible assumption) (by with_reducible assumption) (by with_reducible assumption) (by with_reducible assumption) (by first | kqd_sub | fail) (by first | (((first | exact room hdp rfl | exact room hun rfl | (dsimp only [AR, Around.deeper]; omega)))) | fail)).1 ?_; k_whole))
  k_with "compareOp NotEq" => (k_here; k_dflt (refine' (celCmp (by k_asm) (by k_asm) (by with_reducible assumption) (by with_reducible assumption) (by with_reducible assumption) (by with_reducible assumption) (by first | kqd_sub | fail) (by first | (((first | exact room hdp rfl | exact room hun rfl | (dsimp only [AR, Around.deeper]; omega)))) | fail)).2 ?_; k_whole))
  k_with "in" => first | with_reducible assumption | ((with_reducible refine List.mem_cons_of_mem _ ?_); kqd_in) | fail
  k_with "kall" => with_reducible assumption
  k_with "mem" => first | with_reducible assumption | ((with_reducible refine List.mem_cons_of_mem _ ?_); k_mem) | fail
  k_with "call builtin:list.append" => (k_here; (with_reducible show wpAny _ _ (call (Value.builtin _) [Value.ref _, _]) _ _ _); k_dflt (refine' append_K (by k_asm) (by k_asm) (by first | k_upd | fail) ?_ (by with_reducible assumption); k_whole); intro wh' wF' wN'; (try k_sweep))
  trivial
theorem getM {prog : Program} {w : World} {A : Around} {E : Value → Shared → Prop} {s : Shared} {g : Heap} {L : Addr} {nl : Led} {d : Addr} {o : Obj} {xs : List Ent} {pl : Sem Bool} {Q : Value × List Value → Shared → Prop} (N : News g L s.heap nl)
    (hm : (d, o) ∈ nl) (hD : DictO prog w o xs) (h : Q (.builtin "dict.get", [.ref d]) s) : wpAny (model prog w) A (getMethod (.ref d) "get" pl) Q E s := by
  obtain ⟨es, ep, r1, r2, r3, r4⟩ := hD
  exact getMethod_builtin ⟨o, (N _ hm).1, r1.1⟩ PySem.F.plainAttrs_dict PySem.F.slot_dict_get PySem.F.type_dict_get (fun b e => by injection e with e; subst e; exact ⟨o, (N _ hm).1, r1.2.1⟩) h
theorem linesCM23 : True := by
  k_with "getMethod ref" => (k_here; (with_reducible show wpAny _ _ (getMethod (Value.ref _) (Str.ofString "get") _) _ _ _); k_dflt (refine' getM (by k_asm) (by first | kqd_in | fail) (by with_reducible assumption) ?_))
  trivial
theorem getD' {prog : Program} {w : World} {A : Around} {E : Value → Shared → Prop} {s : Shared} {g : Heap} {L : Addr} {m : Str → Option Value} {nl : Led} {d a : Addr} {o : Obj} {xs : List Ent} {k : List Str} {Q : Value → Shared → Prop} (F : Fr g L s.heap m) (N : News g L s.heap nl) (lo : (d == sysModules) = false)
    (hm : (d, o) ∈ nl) (hD : DictO prog w o xs) (hk : ∀ z ∈ xs, KeyAt (At g nl) z.1 z.2.1) (hkey : KeyAt (At g nl) k a) (hu : A.units + 4 < cLine)
    (h : ∀ tk, Q (((atKey xs k).map (·.2)).getD .none) { s with toks := tk }) : wpAny (model prog w) A (call (.builtin "dict.get") [.ref d, .ref a]) Q E s :=
  call_meetsIn PySem.F.slot_dict_get (hD.dict F N hm hk).typeIs PySem.F.entry_dict_get (PySem.F.args_dict_get_2 _ _) (meetsH_dict_get (TKd prog w) d a lo) ⟨(show A.in1.units < cLine from by show A.units + 1 < cLine; omega), k, xs, hkey.key F N, hD.dict F N hm hk, h _⟩
theorem listD {prog : Program} {w : World} {A : Around} {E : Value → Shared → Prop} {s : Shared} {h₀ : Heap} {L : Addr} {m : Str → Option Value} {news : Led} {d : Addr} {o : Obj} {xs : List Ent} {Q : Value → Shared → Prop} (hh : A.handled = none) (F : Fr h₀ L s.heap m) (N : News h₀ L s.heap news) (lo : (d == sysModules) = false)
    (hm : (d, o) ∈ news) (hD : DictO prog w o xs) (hn : xs.length ≤ 3)
    (h : ∀ (D : Addr) c h' tk, Fr h₀ L h' m → News h₀ L h' ((D, W.listOf (xs.map fun z => Value.ref z.2.1).toArray c) :: news) → AllLt D news → Q (.ref D) { s with heap := h', toks := tk }) :
    wpAny (model prog w) A (call (.type "list") [.ref d]) Q E s := by
  obtain ⟨es, ep, r1, r2, r3, r4⟩ := hD
  have hes : es.size = xs.length := size_of_entries r3
  refine list_dict hh F N lo hm r1 r2 (by rw [hes, sizeLine_eq]; omega) fun D c h' tk F' N' lt => ?_
  have hkeys : es.toList.map (·.key) = xs.map fun z => Value.ref z.2.1 := by rw [r3, List.map_map]; rfl
  rw [hkeys] at N'
  exact h D c h' tk F' N' (allLt_of lt)
theorem addL {prog : Program} {w : World} {A : Around} {E : Value → Shared → Prop} {s : Shared} {h₀ : Heap} {L : Addr} {m : Str → Option Value} {news : Led} {a b : Addr} {vs ws : List Value} {c1 c2 : Nat} {Q : Value → Shared → Prop} (F : Fr h₀ L s.heap m) (N : News h₀ L s.heap news)
    (ha : (a, W.listOf vs.toArray c1) ∈ news) (hb : (b, W.listOf ws.toArray c2) ∈ news) (hz : vs.length + ws.length ≤ 16)
    (h : ∀ D h', Fr h₀ L h' m → News h₀ L h' ((D, W.listOf (vs ++ ws).toArray 0) :: news) → AllLt D news → Q (.ref D) { s with heap := h' }) : wpAny (model prog w) A (binaryOp .Add (.ref a) (.ref b)) Q E s :=
  kmk_add_lit F N (its := vs.toArray) (its2 := ws.toArray) (zs := vs ++ ws) ⟨_, (N _ ha).1, rfl, _, rfl⟩ ⟨_, (N _ hb).1, rfl, _, rfl⟩ (by simp) (fun D h' F' N' lt => h D h' F' N' (allLt_of lt)) (by simp; rw [sizeLine_eq]; omega)

/-- behind the told value -/
inductive Told1 (g : Heap) (L : Addr) (m : Str → Option Value) (nl rest : Led) (c : Cel) (s : Shared) (f : Flow) (s' : Shared) : Prop
  | mk (h : Heap) (tk : Nat) (wt : Value) (ef : f = .next) (es : s' = { s with heap := h, toks := tk }) (F : Fr g L h (fun y => if y = "told" then some wt else m y)) (N : News g L h nl) (hc : CelAt (Of rest) wt c)
theorem told1 {M : Model} {A : Around} {t : Sem Flow} {Q : Flow → Shared → Prop} {E : Value → Shared → Prop} {g : Heap} {L : Addr} {m : Str → Option Value} {s : Shared} {nl rest : Led} {c : Cel} (_F : Fr g L s.heap m) (_N : News g L s.heap nl) (h1 : wpAny M A t (Told1 g L m nl rest c s) E s)
    (h2 : ∀ h tk wt, Fr g L h (fun y => if y = "told" then some wt else m y) → News g L h nl → CelAt (Of rest) wt c → Q .next { s with heap := h, toks := tk }) : wpAny M A t Q E s :=
  wpAny_mono h1 (fun f s' ⟨h, tk, wt, ef, es, F, N, hc⟩ => by subst ef; subst es; exact h2 h tk wt F N hc) fun _ _ e => e
theorem newsRot3 {g h : Heap} {L : Addr} {a b c d : Addr × Obj} {r : Led} (N : News g L h (a :: b :: c :: d :: r)) : News g L h (b :: c :: d :: a :: r) := fun p hp => N p (by
  rcases List.mem_cons.mp hp with rfl | hp
  · exact .tail _ (.head _)
  rcases List.mem_cons.mp hp with rfl | hp
  · exact .tail _ (.tail _ (.head _))
  rcases List.mem_cons.mp hp with rfl | hp
  · exact .tail _ (.tail _ (.tail _ (.head _)))
  rcases List.mem_cons.mp hp with rfl | hp
  · exact .head _
  · exact .tail _ (.tail _ (.tail _ (.tail _ hp))))
/-- behind the clash -/
inductive Clash2 (g : Heap) (L : Addr) (m : Str → Option Value) (I cl fo : Addr) (oI fobj : Obj) (tl : Led) (B : Led → List Value → Prop) (k : Nat) (s : Shared) (f : Flow) (s' : Shared) : Prop
  | mk (h : Heap) (tk : Nat) (tx : Led) (ysc : List Value) (cc : Nat) (ef : f = .next) (es : s' = { s with heap := h, toks := tk }) (F : Fr g L h m) (N : News g L h ((I, oI) :: (cl, W.listOf ysc.toArray cc) :: (fo, fobj) :: tx))
    (up : ∀ p ∈ tl, p ∈ tx) (nI : ∀ p ∈ tx, @Ne Nat p.1 I) (nf : ∀ p ∈ tx, p.1 ≠ fo) (nc : ∀ p ∈ tx, p.1 ≠ cl) (hk : ysc.length ≤ k) (hB : B tx ysc)
theorem clash2 {M : Model} {A : Around} {t : Sem Flow} {Q : Flow → Shared → Prop} {E : Value → Shared → Prop} {g : Heap} {L : Addr} {m : Str → Option Value} {s : Shared} {I cl fo : Addr} {oI fobj : Obj} {tl : Led} {B : Led → List Value → Prop} {k : Nat} (_F : Fr g L s.heap m) (h1 : wpAny M A t (Clash2 g L m I cl fo oI fobj tl B k s) E s)
    (h2 : ∀ h tk tx ysc cc, Fr g L h m → News g L h ((I, oI) :: (cl, W.listOf ysc.toArray cc) :: (fo, fobj) :: tx) → (∀ p ∈ tl, p ∈ tx) → (∀ p ∈ tx, @Ne Nat p.1 I) → (∀ p ∈ tx, p.1 ≠ fo) → (∀ p ∈ tx, p.1 ≠ cl) → ysc.length ≤ k → B tx ysc → Q .next { s with heap := h, toks := tk }) : wpAny M A t Q E s :=
  wpAny_mono h1 (fun f s' ⟨h, tk, tx, ysc, cc, ef, es, F, N, up, nI, nf, nc, hk, hB⟩ => by subst ef; subst es; exact h2 h tk tx ysc cc F N up nI nf nc hk hB) fun _ _ e => e
/-- between the turns of the merging -/
inductive MergeJ (h₀ : Heap) (news : Led) (D1 D2 D3 fo cl Ls : Addr) (path : Value) (pd : PyData) (rest : Led) (rs : List Rec) (cL : Nat) (i : Nat) (m' : Str → Option Value) (nl : Led) : Prop
  | mk (n1 : m' "ahead" = some (.ref D1)) (n2 : m' "first" = some (.ref D2)) (n3 : m' "second" = some (.ref D3)) (n4 : m' "path" = some path) (n5 : m' "found" = some (.ref fo)) (n6 : m' "clashes" = some (.ref cl)) (ysf ysc : List Value) (cf cc : Nat) (tl : Led) (e : nl = (cl, W.listOf ysc.toArray cc) :: (fo, W.listOf ysf.toArray cf) :: tl)
    (s1 : ∀ p ∈ rest, p ∈ tl) (s2 : (Ls, W.listOf (rs.map fun r => Value.ref r.1.2).toArray cL) ∈ tl) (s3 : ∀ p ∈ tl, p.1 ≠ fo) (s4 : ∀ p ∈ tl, p.1 ≠ cl) (s5 : ysf.length ≤ i) (s6 : ysc.length ≤ i)
    (s7 : DLs (AtA h₀ news tl) ysf ((rs.take i).flatMap foundD)) (s8 : DLs (AtA h₀ news tl) ysc ((rs.take i).flatMap (clashD pd)))
theorem mergedAttrs {w : World} {dp un : Nat} {fs : Option (List Env)} {gd : Option (List Code)} {s : Shared} {Q E : Value → Shared → Prop} {h₀ : Heap} {L : Addr} {m : Str → Option Value} {news : Led} {F1 F2 F3 A1 A2 A3 : Addr} {u1 u2 u3 u4 v1 v2 v3 v4 x1 x2 x3 x4 path : Value} {pd : PyData} {ys1 ys2 ys3 : List Value}
    {ka kb kc : List Str} {Ka Kb Kc : Addr} {b0 b1 b2 o0 o1 o2 t0 t1 t2 : Cel}
    (G : Gr w h₀) (F : Fr h₀ L s.heap m) (N : News h₀ L s.heap news) (hdp : dp + 32 < recursionLimit) (hun : un + 200 < cLine) (h3 : K3 ka kb kc)
    (m1 : (F1, tup [u1, u2, u3, .ref A1, u4]) ∈ news) (m2 : (F2, tup [v1, v2, v3, .ref A2, v4]) ∈ news) (m3 : (F3, tup [x1, x2, x3, .ref A3, x4]) ∈ news)
    (a1 : At h₀ news A1 (tup ys1)) (a2 : At h₀ news A2 (tup ys2)) (a3 : At h₀ news A3 (tup ys3))
    (p1 : Trips (At h₀ news) (triOf (ka, Ka) (kb, Kb) (kc, Kc) b0 b1 b2) ys1) (p2 : Trips (At h₀ news) (triOf (ka, Ka) (kb, Kb) (kc, Kc) o0 o1 o2) ys2) (p3 : Trips (At h₀ news) (triOf (ka, Ka) (kb, Kb) (kc, Kc) t0 t1 t2) ys3)
    (hp : DL (At h₀ news) path pd) (hpd : OkD 3 pd) (hka : KeyAt (At h₀ news) ka Ka) (hkb : KeyAt (At h₀ news) kb Kb) (hkc : KeyAt (At h₀ news) kc Kc) (hok : ∀ c ∈ [b0, b1, b2, o0, o1, o2, t0, t1, t2], CelOk c)
    (ret : ∀ R nl h' tk, Fr h₀ L h' m → News h₀ L h' (nl ++ news) → DL (At h₀ (nl ++ news)) (.ref R) (mergedD pd [((ka, Ka), b0, o0, t0), ((kb, Kb), b1, o1, t1), ((kc, Kc), b2, o2, t2)]) → Q (.ref R) { s with heap := h', toks := tk }) :
    wpAny (model PySem.Challenge.pw_xm0632_01 w) (AR dp un fs gd) (call (.ref 64) [.ref F1, .ref F2, .ref F3, path]) Q E s := by
  obtain ⟨⟨loose, mean, mg, mb, T⟩, X⟩ := G
  refine wpAny_call ?_
  refine enterS [(Str.ofString "base", .ref F1), (Str.ofString "one", .ref F2), (Str.ofString "other", .ref F3), (Str.ofString "path", path)] [(F1, tup [u1, u2, u3, .ref A1, u4]), (F2, tup [v1, v2, v3, .ref A2, v4]), (F3, tup [x1, x2, x3, .ref A3, x4])]
    (subC m1 (subC m2 (sub1 m3))) X T F N (by k_is) (by k_is) (by omega) (BindsTo.of_eq rfl) (locs rfl) (by decide) rfl rfl rfl ?_
  intro g L' h₁ X' T' sg hAt back F' N' lt'
  replace a1 := hAt _ _ a1
  replace a2 := hAt _ _ a2
  replace a3 := hAt _ _ a3
  replace p1 := p1.up hAt
  replace p2 := p2.up hAt
  replace p3 := p3.up hAt
  have hp0 := hp
  have hka0 := hka
  have hkb0 := hkb
  have hkc0 := hkc
  replace hp := hp.up hAt
  replace hka := hka.up hAt
  replace hkb := hkb.up hAt
  replace hkc := hkc.up hAt
  clear F N X T m1 m2 m3
  have hbig := modules_low T'.nolimit
  ktr_unf
  refine byKey (grOf T' X') (by k_asm) (by k_asm) (by (first | exact room hdp rfl | exact room hun rfl | (dsimp only [AR, Around.deeper]; omega))) (by (first | exact room hdp rfl | exact room hun rfl | (dsimp only [AR, Around.deeper]; omega))) (by k_mem) a1 p1 (triOf_nodup h3) triOf_len ?_
  intro D1 oD1 ps1 zs1 h1 tk1 nF1 nN1 lt1 lo1 d1 e1
  simp only [List.cons_append, List.nil_append] at nN1
  simp only [List.cons_append, List.nil_append, AllLt] at lt1
  clear F' N'
  ktr_unf
  refine byKey (grOf T' X') nF1 nN1 (by (first | exact room hdp rfl | exact room hun rfl | (dsimp only [AR, Around.deeper]; omega))) (by (first | exact room hdp rfl | exact room hun rfl | (dsimp only [AR, Around.deeper]; omega))) (by k_mem) (At.up (fun p hp => .tail _ (List.mem_append_left _ hp)) _ _ a2) (p2.up (At.up fun p hp => .tail _ (List.mem_append_left _ hp))) (triOf_nodup h3) triOf_len ?_
  intro D2 oD2 ps2 zs2 h2 tk2 nF2 nN2 lt2 lo2 d2 e2
  simp only [List.cons_append, List.nil_append] at nN2
  simp only [List.cons_append, List.nil_append, AllLt] at lt2
  clear nF1 nN1
  ktr_unf
  refine byKey (grOf T' X') nF2 nN2 (by (first | exact room hdp rfl | exact room hun rfl | (dsimp only [AR, Around.deeper]; omega))) (by (first | exact room hdp rfl | exact room hun rfl | (dsimp only [AR, Around.deeper]; omega))) (by k_mem) (At.up (fun p hp => .tail _ (.tail _ (List.mem_append_left _ hp))) _ _ a3) (p3.up (At.up fun p hp => .tail _ (.tail _ (List.mem_append_left _ hp)))) (triOf_nodup h3) triOf_len ?_
  intro D3 oD3 ps3 zs3 h4 tk3 nF3 nN3 lt3 lo3 d3 e3
  simp only [List.cons_append, List.nil_append] at nN3
  simp only [List.cons_append, List.nil_append, AllLt] at lt3
  clear nF2 nN2
  ktr_unf
  rename_i fo _ ltf cl _ ltc _ _ _ _ _ hh nF nN
  obtain ⟨rest, hrest⟩ : ∃ r, r = (D3, oD3) :: (D2, oD2) :: (D1, oD1) :: (F1, tup [u1, u2, u3, Value.ref A1, u4]) :: (F2, tup [v1, v2, v3, Value.ref A2, v4]) :: (F3, tup [x1, x2, x3, Value.ref A3, x4]) :: (ps1 ++ ps2 ++ ps3) := ⟨_, rfl⟩
  have lf : AllLt fo rest := by rw [hrest]; exact ltf.2
  have lc : AllLt cl rest := by rw [hrest]; exact ltc.2.2
  have lfc : @LT.lt Nat _ fo cl := ltc.1
  replace nN : News g L' hh ((cl, W.listOf #[] 0) :: (fo, W.listOf #[] 0) :: rest) := fun p hp => nN p (by
    rw [hrest] at hp
    rcases List.mem_cons.mp hp with rfl | hp
    · exact .tail _ (.head _)
    · rcases List.mem_cons.mp hp with rfl | hp
      · exact .tail _ (.tail _ (.head _))
      · exact .tail _ (.tail _ (.tail _ (.tail _ hp))))
  have sub0 : ∀ q ∈ [(F1, tup [u1, u2, u3, .ref A1, u4]), (F2, tup [v1, v2, v3, .ref A2, v4]), (F3, tup [x1, x2, x3, .ref A3, x4])], q ∈ rest := fun q hq => by
    rw [hrest]
    exact .tail _ (.tail _ (.tail _ (subC (.head _) (subC (.tail _ (.head _)) (sub1 (.tail _ (.tail _ (.head _))))) q hq)))
  have mD1 : (D1, oD1) ∈ rest := by rw [hrest]; exact .tail _ (.tail _ (.head _))
  have mD2 : (D2, oD2) ∈ rest := by rw [hrest]; exact .tail _ (.head _)
  have mD3 : (D3, oD3) ∈ rest := by rw [hrest]; exact .head _
  replace e1 : Ents (Of rest) _ zs1 := e1.up fun a o h => by
    rw [hrest]
    exact .tail _ (.tail _ (.tail _ (.tail _ (.tail _ (.tail _ (List.mem_append_left _ (List.mem_append_left _ h)))))))
  replace e2 : Ents (Of rest) _ zs2 := e2.up fun a o h => by
    rw [hrest]
    exact .tail _ (.tail _ (.tail _ (.tail _ (.tail _ (.tail _ (List.mem_append_left _ (List.mem_append_right _ h)))))))
  replace e3 : Ents (Of rest) _ zs3 := e3.up fun a o h => by
    rw [hrest]
    exact .tail _ (.tail _ (.tail _ (.tail _ (.tail _ (.tail _ (List.mem_append_right _ h))))))
  have ok1 : TripOk (At g rest) _ := (p1.up (At.up sub0)).ok
  have ok2 : TripOk (At g rest) _ := (p2.up (At.up sub0)).ok
  have ok3 : TripOk (At g rest) _ := (p3.up (At.up sub0)).ok
  replace hp := hp.up (At.up sub0)
  replace hka := hka.up (At.up sub0)
  replace hkb := hkb.up (At.up sub0)
  replace hkc := hkc.up (At.up sub0)
  have g1 := celLook h3 e1
  have g2 := celLook h3 e2
  have g3 := celLook h3 e3
  have l1 : zs1.length ≤ 3 := by rw [← e1.length]; exact triOf_len
  have l2 : zs2.length ≤ 3 := by rw [← e2.length]; exact triOf_len
  have l3 : zs3.length ≤ 3 := by rw [← e3.length]; exact triOf_len
  have k1 := e1.keyAt ok1
  have k2 := e2.keyAt ok2
  have k3 := e3.keyAt ok3
  clear ltf ltc lt1 lt2 lt3 hrest p1 p2 p3 a1 a2 a3
  refine comp_lst nF rfl (by rfl) (by decide) rfl (by decide) (fun _ => rfl) ?_
  ktr_unf
  refine listD rfl nF nN lo1 (.tail _ (.tail _ mD1)) d1 l1 ?_
  intro E1 c1 hq1 tq1 qF1 qN1 qt1
  ktr_unf
  refine listD rfl qF1 qN1 lo2 (.tail _ (.tail _ (.tail _ mD2))) d2 l2 ?_
  intro E2 c2 hq2 tq2 qF2 qN2 qt2
  ktr_unf
  refine addL qF2 qN2 (.tail _ (.head _)) (.head _) (by simp; omega) ?_
  intro S1 hq3 qF3 qN3 qt3
  ktr_unf
  refine listD rfl qF3 qN3 lo3 (.tail _ (.tail _ (.tail _ (.tail _ (.tail _ mD3))))) d3 l3 ?_
  intro E3 c3 hq4 tq4 qF4 qN4 qt4
  ktr_unf
  refine addL qF4 qN4 (.tail _ (.head _)) (.head _) (by simp; omega) ?_
  intro S2 hq5 qF5 qN5 qt5
  obtain ⟨allz, hallz⟩ : ∃ z : List Ent, z = (zs1 ++ zs2 ++ zs3).map fun z => (z.1, z.2.1, Value.bool true) := ⟨_, rfl⟩
  have hits : (zs1.map fun z => Value.ref z.2.1) ++ (zs2.map fun z => Value.ref z.2.1) ++ (zs3.map fun z => Value.ref z.2.1) = allz.map fun z => Value.ref z.2.1 := by rw [hallz, List.map_map, List.map_append, List.map_append]; rfl
  have hak : ∀ z ∈ allz, KeyAt (At g rest) z.1 z.2.1 := by
    intro z hz
    rw [hallz] at hz
    obtain ⟨y, hy, rfl⟩ := List.mem_map.mp hz
    rcases List.mem_append.mp hy with hy | hy
    · rcases List.mem_append.mp hy with hy | hy
      · exact k1 y hy
      · exact k2 y hy
    · exact k3 y hy
  have hal : allz.length ≤ 9 := by rw [hallz]; simp; omega
  have hab : ∀ z ∈ allz, z.2.2 = .bool true := by
    intro z hz
    rw [hallz] at hz
    obtain ⟨y, hy, rfl⟩ := List.mem_map.mp hz
    rfl
  have hakl : allz.map kl = ((triOf (ka, Ka) (kb, Kb) (kc, Kc) b0 b1 b2 ++ triOf (ka, Ka) (kb, Kb) (kc, Kc) o0 o1 o2) ++ triOf (ka, Ka) (kb, Kb) (kc, Kc) t0 t1 t2).map (·.1) := by
    rw [hallz, List.map_map, List.map_append, List.map_append, List.map_append, List.map_append, ← e1.keys, ← e2.keys, ← e3.keys]
    rfl
  rw [hits] at qN5
  replace qN5 : News g L' hq5 ((S2, W.listOf (allz.map fun z => Value.ref z.2.1).toArray 0) :: (cl, W.listOf #[] 0) :: (fo, W.listOf #[] 0) :: rest) := fun p hp => qN5 p (by
    rcases List.mem_cons.mp hp with rfl | hp
    · exact .head _
    · exact .tail _ (.tail _ (.tail _ (.tail _ (.tail _ hp)))))
  clear qN1 qN2 qN3 qN4 qF1 qF2 qF3 qF4 qt1 qt2 qt3 qt4 nN nF l1 l2 l3 hits
  refine LstSrc.mk (its := (allz.map fun z => Value.ref z.2.1).toArray) (fun v m' => m' "key" = some v) qF5 qN5 (.inr ⟨_, .head _, rfl, _, rfl⟩) (by rw [sizeLine_eq]; simp; omega) (asg_name rfl rfl) fun gg => ?_
  refine crest_inv (fun i ys' nl => (∀ p ∈ (S2, W.listOf (allz.map fun z => Value.ref z.2.1).toArray 0) :: (cl, W.listOf #[] 0) :: (fo, W.listOf #[] 0) :: rest, p ∈ nl) ∧ Prs (At g nl) ys' (allz.take i)) ?_ ?_ _ _ _ _ (Nat.zero_add _) ⟨fun _ h => h, by simpa using Prs.nil⟩
  · intro i v ys' nl I oI C oC D m₂ h tk E' R R0 hi hP hJ hB hoC F₁ N₁ off ne hR hR0
    obtain ⟨hsub, hPr⟩ := hJ
    obtain ⟨z, hz, rfl⟩ : ∃ z, allz[i]? = some z ∧ v = .ref z.2.1 := by
      rw [List.getElem?_toArray, List.getElem?_map] at hP
      cases e : allz[i]? with
      | none => rw [e] at hP; cases hP
      | some z => rw [e] at hP; cases hP; exact ⟨z, rfl, rfl⟩
    refine tests_nil ?_
    dsimp only
    ktr_unf
    with_reducible rename News g L' _ (_ :: (I, oI) :: _) => nN
    with_reducible rename Fr g L' _ _ => nF
    have hzm := List.mem_of_getElem? hz
    have mkJ : ∀ T' : Addr, Prs (At g ((T', tup [.ref z.2.1, .bool true]) :: nl)) (ys' ++ [.ref T']) (allz.take (i + 1)) := by
      intro T'
      rw [take_snoc hz]
      refine (hPr.up (At.up fun _ h => .tail _ h)).append (.cons ?_ ((hak z hzm).up (At.up fun p hp => .tail _ (hsub p (.tail _ (.tail _ (.tail _ hp)))))) .nil)
      rw [hab z hzm]
      exact .inr (.head _)
    exact hR _ _ _ _ nF (news_one nN) ⟨⟨by k_ne, by k_ne, by k_ne⟩, off⟩ (.inr ⟨_, .tail _ (hsub _ (.head _)), rfl, _, rfl⟩) ⟨fun p hp => .tail _ (hsub p hp), mkJ _⟩
  · rintro ys' nl ⟨hsub, hPr⟩ Dl h tk F₁ N₁ oo1
    dsimp only
    ktr_unf
    have hfull : allz.take (allz.map fun z => Value.ref z.2.1).toArray.size = allz := by rw [List.take_of_length_le]; simp
    rw [hfull] at hPr
    refine dictPairs (k := ys'.length) rfl (by (first | exact room hdp rfl | exact room hun rfl | (dsimp only [AR, Around.deeper]; omega))) hbig F₁ N₁ (.head _) (hPr.up (At.up fun _ h => .tail _ h)) (by rw [sizeLine_eq]; omega) ?_
    intro DD oDD h6 tk6 qF6 qN6 _ _ loD dD
    replace qN6 : News g L' h6 ((DD, oDD) :: (cl, W.listOf #[] 0) :: (fo, W.listOf #[] 0) :: rest) := fun p hp => qN6 p (by
      rcases List.mem_cons.mp hp with rfl | hp
      · exact .head _
      · exact .tail _ (.tail _ (hsub _ (.tail _ hp))))
    clear N₁ F₁ hPr hsub oo1 qN5 qF5
    ktr_unf
    with_reducible rename News g L' _ _ => nN
    with_reducible rename Fr g L' _ _ => nF
    refine For_turns nF ?_ (fun _ => rfl)
    ktr_unf
    obtain ⟨rs, hrs⟩ : ∃ l, l = recs [((ka, Ka), b0, o0, t0), ((kb, Kb), b1, o1, t1), ((kc, Kc), b2, o2, t2)] := ⟨_, rfl⟩
    have hkz : ∀ z ∈ putAll allz [], (KeyAt (At g rest) z.1 z.2.1) ∧ KIn ka kb kc z.1 := by
      intro z hz
      rcases putAll_keys [] z hz with ⟨y, hy, _⟩ | ⟨y, hy, e1', e2'⟩
      · cases hy
      · rw [← e1', ← e2']
        refine ⟨hak y hy, ?_⟩
        have hy' : kl y ∈ allz.map kl := List.mem_map_of_mem hy
        rw [hakl] at hy'
        obtain ⟨t, ht, et⟩ := List.mem_map.mp hy'
        have : y.1 = t.1.1 := (congrArg Prod.fst et).symm
        rw [this]
        have one : ∀ (a b c : Cel), t ∈ triOf (ka, Ka) (kb, Kb) (kc, Kc) a b c → KIn ka kb kc t.1.1 := fun a b c => triOf_in
        rcases List.mem_append.mp ht with ht | ht
        · rcases List.mem_append.mp ht with ht | ht
          · exact one _ _ _ ht
          · exact one _ _ _ ht
        · exact one _ _ _ ht
    have hlen3 : (putAll allz []).length ≤ 3 := by
      obtain ⟨_, _, _, _, _, hnd⟩ := dD
      rw [← order_len h3 hnd fun z hz => (hkz z hz).2, order_union h3 hakl]
      simp only [List.length_map]
      exact List.length_filter_le _ _
    refine sortedKeys rfl nF nN loD (.head _) dD (fun z hz => (hkz z hz).1.up (At.up fun p hp => .tail _ (.tail _ (.tail _ hp)))) h3 (fun z hz => (hkz z hz).2) hlen3 ?_
    intro Ls cL h7 tk7 qF7 qN7 ltL
    rw [order_union h3 hakl] at qN7
    change News g L' h7 ((Ls, W.listOf ((recs [((ka, Ka), b0, o0, t0), ((kb, Kb), b1, o1, t1), ((kc, Kc), b2, o2, t2)]).map fun r => Value.ref r.1.2).toArray cL) :: _) at qN7
    rw [← hrs] at qN7
    dsimp only
    have hrec : ∀ r ∈ rs, CelAt (Of rest) (((atKey zs1 r.1.1).map (·.2)).getD .none) r.2.1 ∧ CelAt (Of rest) (((atKey zs2 r.1.1).map (·.2)).getD .none) r.2.2.1 ∧ CelAt (Of rest) (((atKey zs3 r.1.1).map (·.2)).getD .none) r.2.2.2 ∧ KeyAt (At g rest) r.1.1 r.1.2 ∧ KeyAt (At h₀ news) r.1.1 r.1.2 ∧ CelOk r.2.1 ∧ CelOk r.2.2.1 ∧ CelOk r.2.2.2 := by
      intro r hr
      rw [hrs] at hr
      have hr := (List.mem_filter.mp hr).1
      simp only [List.mem_cons, List.not_mem_nil, or_false] at hr
      rcases hr with rfl | rfl | rfl
      · exact ⟨g1.1, g2.1, g3.1, hka, hka0, hok _ (by simp), hok _ (by simp), hok _ (by simp)⟩
      · exact ⟨g1.2.1, g2.2.1, g3.2.1, hkb, hkb0, hok _ (by simp), hok _ (by simp), hok _ (by simp)⟩
      · exact ⟨g1.2.2, g2.2.2, g3.2.2, hkc, hkc0, hok _ (by simp), hok _ (by simp), hok _ (by simp)⟩
    refine turns_list (items := (rs.map fun r => Value.ref r.1.2).toArray) (l := Ls) (lo := W.listOf (rs.map fun r => Value.ref r.1.2).toArray cL) (n := cL) (fun i m' nl => MergeJ h₀ news D1 D2 D3 fo cl Ls path pd rest rs cL i m' nl)
      rfl qF7 (news := (cl, W.listOf #[] 0) :: (fo, W.listOf #[] 0) :: (Ls, W.listOf (rs.map fun r => Value.ref r.1.2).toArray cL) :: rest) ?_ (.inr (.tail _ (.tail _ (.head _)))) rfl rfl ?_ ?_ ?_
    · intro p hp
      refine qN7 p ?_
      (revert hp; revert p; (repeat (refine List.forall_mem_cons.mpr ⟨by (repeat (first | with_reducible exact List.mem_cons_self | with_reducible refine List.mem_cons_of_mem _ ?_)), ?_⟩)); exact fun p hp => by ((repeat (with_reducible refine List.mem_cons_of_mem _ ?_)); exact hp))
    · refine ⟨rfl, rfl, rfl, rfl, rfl, rfl, [], [], 0, 0, _, rfl, fun p hp => .tail _ hp, .head _, ?_, ?_, Nat.le_refl _, Nat.le_refl _, ?_, ?_⟩
      · intro p hp
        rcases List.mem_cons.mp hp with rfl | hp
        · exact Ne.symm (Nat.ne_of_lt ltL.2.2.1)
        · exact Nat.ne_of_lt (allLt_all _ lf p hp)
      · intro p hp
        rcases List.mem_cons.mp hp with rfl | hp
        · exact Ne.symm (Nat.ne_of_lt ltL.2.1)
        · exact Nat.ne_of_lt (allLt_all _ lc p hp)
      · simpa using DLs.nil
      · simpa using DLs.nil
    · clear nF nN qF7 qN7
      rintro i v m₁ nl h8 tk8 I oI R hR hiv ⟨n1, n2, n3, n4, n5, n6, ysf, ysc, cf, cc, tl, rfl, s1, s2, s3, s4, s5, s6, s7, s8⟩ off hls F₁ N₁
      obtain ⟨r, hr, rfl⟩ : ∃ r, rs[i]? = some r ∧ v = .ref r.1.2 := by
        rw [List.getElem?_toArray, List.getElem?_map] at hiv
        cases e : rs[i]? with
        | none => rw [e] at hiv; cases hiv
        | some z => rw [e] at hiv; cases hiv; exact ⟨z, rfl, rfl⟩
      obtain ⟨c1', c2', c3', kr, kr0, ok1', ok2', ok3'⟩ := hrec r (List.mem_of_getElem? hr)
      have oI1 : @Ne Nat cl I := off _ (.head _)
      have oI2 : @Ne Nat fo I := off _ (.tail _ (.head _))
      have s4' : ∀ p ∈ (fo, W.listOf ysf.toArray cf) :: tl, p.1 ≠ cl := fun p hp => by
        rcases List.mem_cons.mp hp with rfl | hp
        · exact Nat.ne_of_lt lfc
        · exact s4 p hp
      have hrl : rs.length ≤ 3 := by
        rw [hrs]
        exact List.length_filter_le _ _
      have hi3 : i < rs.length := by
        cases Nat.lt_or_ge i rs.length with
        | inl h => exact h
        | inr h => rw [List.getElem?_eq_none h] at hr; cases hr
      have z1 : ysc.toArray.size ≤ sizeLine := by simp; rw [sizeLine_eq]; omega
      have z2 : ysf.toArray.size ≤ sizeLine := by simp; rw [sizeLine_eq]; omega
      replace F₁ := frSet6 F₁ n1 n2 n3 n4 n5 n6
      have S1 : SubL rest tl := s1
      have mD1' := s1 _ mD1
      have mD2' := s1 _ mD2
      have mD3' := s1 _ mD3
      have inTl : ∀ p ∈ rest, p ∈ (I, oI) :: (cl, W.listOf ysc.toArray cc) :: (fo, W.listOf ysf.toArray cf) :: tl := fun p hp => .tail _ (.tail _ (.tail _ (s1 p hp)))
      ktr_unf
      with_reducible rename News g L' _ _ => nN
      with_reducible rename Fr g L' _ _ => nF
      refine getD' nF nN lo1 (inTl _ mD1) d1 (fun z hz => (k1 z hz).up (At.up inTl)) (kr.up (At.up inTl)) (by (first | exact room hdp rfl | exact room hun rfl | (dsimp only [AR, Around.deeper]; omega))) ?_
      intro tkA
      generalize ((atKey zs1 r.1.1).map (·.2)).getD .none = w1 at c1' ⊢
      ktr_unf
      refine getD' nF nN lo2 (inTl _ mD2) d2 (fun z hz => (k2 z hz).up (At.up inTl)) (kr.up (At.up inTl)) (by (first | exact room hdp rfl | exact room hun rfl | (dsimp only [AR, Around.deeper]; omega))) ?_
      intro tkB
      generalize ((atKey zs2 r.1.1).map (·.2)).getD .none = w2 at c2' ⊢
      ktr_unf
      refine getD' nF nN lo3 (inTl _ mD3) d3 (fun z hz => (k3 z hz).up (At.up inTl)) (kr.up (At.up inTl)) (by (first | exact room hdp rfl | exact room hun rfl | (dsimp only [AR, Around.deeper]; omega))) ?_
      intro tkC
      generalize ((atKey zs3 r.1.1).map (·.2)).getD .none = w3 at c3' ⊢
      ktr_rel
      with_reducible rename News g L' _ _ => nN
      with_reducible rename Fr g L' _ _ => nF
      replace nN : News g L' _ ((I, oI) :: (cl, W.listOf ysc.toArray cc) :: (fo, W.listOf ysf.toArray cf) :: tl) := fun p hp => nN p (.tail _ hp)
      have tk1 : ∀ f : Rec → List PyData, (rs.take (i + 1)).flatMap f = (rs.take i).flatMap f ++ f r := fun f => by rw [take_snoc hr, List.flatMap_append]; simp
      have hlI : ∀ p ∈ tl, @Ne Nat p.1 I := fun p hp => off _ (.tail _ (.tail _ hp))
      refine told1 (rest := rest) (c := toldC r) nF nN ?_ ?_
      · ktr_unf
        · with_reducible rename News g L' _ _ => nN
          with_reducible rename Fr g L' _ _ => nF
          exact ⟨_, _, _, rfl, rfl, nF, nN, by unfold toldC; rw [if_pos (by with_reducible assumption)]; exact c3'⟩
        · with_reducible rename News g L' _ _ => nN
          with_reducible rename Fr g L' _ _ => nF
          exact ⟨_, _, _, rfl, rfl, nF, nN, by unfold toldC; rw [if_neg (by with_reducible assumption)]; exact c2'⟩
      · clear nF nN
        intro h9 tk9 wt nF nN hwt
        ktr_rel
        with_reducible rename News g L' _ _ => nN
        with_reducible rename Fr g L' _ _ => nF
        refine clash2 (I := I) (cl := cl) (fo := fo) (oI := oI) (fobj := W.listOf ysf.toArray cf) (tl := tl) (B := fun tx ys => DLs (AtA h₀ news tx) ys ((rs.take (i + 1)).flatMap (clashD pd))) (k := i + 1) nF ?_ ?_
        · have no : clashD pd r = [] → DLs (AtA h₀ news tl) ysc ((rs.take (i + 1)).flatMap (clashD pd)) := fun e => by rw [tk1, e, List.append_nil]; exact s8
          have z6 : ysc.length ≤ i + 1 := Nat.le_succ_of_le s6
          ktr_unf
          · with_reducible rename News g L' _ _ => nN
            with_reducible rename Fr g L' _ _ => nF
            exact ⟨_, _, tl, ysc, cc, rfl, rfl, nF, nN, fun _ h => h, hlI, s3, s4, z6, no (if_neg fun q => q.1 (by with_reducible assumption))⟩
          · with_reducible rename News g L' _ _ => nN
            with_reducible rename Fr g L' _ _ => nF
            exact ⟨_, _, tl, ysc, cc, rfl, rfl, nF, nN, fun _ h => h, hlI, s3, s4, z6, no (if_neg fun q => q.2.1 (by with_reducible assumption))⟩
          · with_reducible rename News g L' _ _ => nN
            with_reducible rename Fr g L' _ _ => nF
            exact ⟨_, _, tl, ysc, cc, rfl, rfl, nF, nN, fun _ h => h, hlI, s3, s4, z6, no (if_neg fun q => q.2.2 (by with_reducible assumption))⟩
          · with_reducible rename News g L' _ _ => nN
            with_reducible rename Fr g L' _ _ => nF
            simp only [List.push_toArray] at nN
            refine ⟨_, _, _, _, _, rfl, rfl, nF, newsRot3 nN, fun p hp => .tail _ hp, List.forall_mem_cons.mpr ⟨by k_ne, hlI⟩, List.forall_mem_cons.mpr ⟨by k_ne, s3⟩, List.forall_mem_cons.mpr ⟨by k_ne, s4⟩, by rw [List.length_append]; exact Nat.succ_le_succ s6, ?_⟩
            rw [tk1, show clashD pd r = _ from if_pos ⟨by with_reducible assumption, by with_reducible assumption, by with_reducible assumption⟩]
            exact (s8.up (AtA.up fun p hp => .tail _ hp)).append (.cons (DL.tuple (.inr (.head _)) rfl rfl rfl (.cons (.str _ _) (.cons (hp0.up fun _ _ h => .inl h) (.cons (kr0.up fun _ _ h => .inl h).dl.1 (.cons (c2'.up fun _ _ h => .inr (.tail _ (s1 _ h))).dl (.cons (c3'.up fun _ _ h => .inr (.tail _ (s1 _ h))).dl .nil)))))) .nil)
        · clear nF nN
          intro h10 tk10 tx ysc' cc' nF nN up nI nf nc z7 hB
          have close : ∀ (ty : Led) (ysf' : List Value) (cf' : Nat) (h' : Heap) (tk' : Nat) (m' : Str → Option Value), Fr g L' h' m' → (m' "ahead" = some (.ref D1) ∧ m' "first" = some (.ref D2) ∧ m' "second" = some (.ref D3) ∧ m' "path" = some path ∧ m' "found" = some (.ref fo) ∧ m' "clashes" = some (.ref cl)) →
              News g L' h' ((I, oI) :: (cl, W.listOf ysc'.toArray cc') :: (fo, W.listOf ysf'.toArray cf') :: ty) → (∀ p ∈ tx, p ∈ ty) → (∀ p ∈ ty, @Ne Nat p.1 I) → (∀ p ∈ ty, p.1 ≠ fo) → (∀ p ∈ ty, p.1 ≠ cl) → ysf'.length ≤ i + 1 → DLs (AtA h₀ news ty) ysf' ((rs.take (i + 1)).flatMap foundD) → R .next { s with heap := h', toks := tk' } :=
            fun ty ysf' cf' h' tk' m' qF qn qN u q1 q2 q3 q4 q5 => hR _ _ (turnEnd (.inl rfl) qF qN (.head _) (fun p hp => .tail _ hp) (List.forall_mem_cons.mpr ⟨oI1, List.forall_mem_cons.mpr ⟨oI2, q1⟩⟩) (.inr (.tail _ (.tail _ (u _ (up _ s2)))))
              ⟨qn.1, qn.2.1, qn.2.2.1, qn.2.2.2.1, qn.2.2.2.2.1, qn.2.2.2.2.2, ysf', ysc', cf', cc', ty, rfl, fun p hp => u _ (up _ (s1 p hp)), u _ (up _ s2), q2, q3, q4, z7, q5, hB.up (AtA.up u)⟩)
          cases hc : toldC r with
          | none =>
            rw [hc] at hwt
            have e : wt = .none := hwt
            subst e
            ktr_unf
            with_reducible rename News g L' _ _ => nN
            with_reducible rename Fr g L' _ _ => nF
            exact close tx ysf cf _ _ _ nF ⟨rfl, rfl, rfl, rfl, rfl, rfl⟩ nN (fun _ h => h) nI nf nc (Nat.le_succ_of_le s5) (by rw [tk1, foundD_none hc, List.append_nil]; exact s7.up (AtA.up up))
          | some q =>
            obtain ⟨n, x⟩ := q
            rw [hc] at hwt
            obtain ⟨P, tn, tx', e, hP⟩ := hwt
            have hP' : (P, tup [.str n tn, .str x tx']) ∈ tx := up _ (s1 _ hP)
            clear hP
            subst e
            ktr_unf
            with_reducible rename News g L' _ _ => nN
            with_reducible rename Fr g L' _ _ => nF
            simp only [List.push_toArray] at nN
            refine close _ _ _ _ _ _ nF ⟨rfl, rfl, rfl, rfl, rfl, rfl⟩ (newsRot3 nN) (fun _ h => .tail _ h) (List.forall_mem_cons.mpr ⟨by k_ne, nI⟩) (List.forall_mem_cons.mpr ⟨by k_ne, nf⟩) (List.forall_mem_cons.mpr ⟨by k_ne, nc⟩) (by rw [List.length_append]; exact Nat.succ_le_succ s5) ?_
            rw [tk1, foundD_some hc]
            exact (s7.up (AtA.up fun p hp => .tail _ (up p hp))).append (.cons (DL.tuple (.inr (.head _)) rfl rfl rfl (.cons (kr0.up fun _ _ h => .inl h).dl.1 (.cons (.str _ _) (.cons (.str _ _) .nil)))) .nil)
    · clear nF nN qF7 qN7
      rintro h' tk m' nl F₁ N₁ ⟨n1, n2, n3, n4, n5, n6, ysf, ysc, cf, cc, tl, rfl, s1, s2, s3, s4, s5, s6, s7, s8⟩
      have hsz : (rs.map fun r => Value.ref r.1.2).toArray.size = rs.length := by simp
      have hrl : rs.length ≤ 3 := by
        rw [hrs]
        exact List.length_filter_le _ _
      rw [hsz, List.take_length] at s7 s8
      rw [hsz] at s5 s6
      replace F₁ := frSet2 F₁ n5 n6
      dsimp only
      ktr_unf
      refine kde_tupleOf F₁ N₁ ⟨_, (N₁ _ (.tail _ (.head _))).1, rfl, _, rfl⟩ (by simp; omega) (zs := ysf) (by simp) ?_
      intro T2 hT nF2 nN2 lt2
      have fin : ∀ {R : Addr} {h' : Heap} {tk' : Nat} {m' : Str → Option Value}, Fr g L' h' m' → News g L' h' ((R, tup [.ref T2, .ref cl]) :: (T2, tup ysf) :: (cl, W.listOf ysc.toArray cc) :: (fo, W.listOf ysf.toArray cf) :: tl) → Q (.ref R) { s with heap := h', toks := tk' } := by
        intro R h' tk' m' qF qN
        obtain ⟨bF, -, -, bN⟩ := back _ _ _ qF qN
        have up : ∀ a o, AtA h₀ news tl a o → At h₀ (((R, tup [.ref T2, .ref cl]) :: (T2, tup ysf) :: (cl, W.listOf ysc.toArray cc) :: (fo, W.listOf ysf.toArray cf) :: tl) ++ news) a o := fun a o x => x.elim (fun y => y.elim .inl fun z => .inr (List.mem_append_right _ z)) fun z => .inr (List.mem_append_left _ (.tail _ (.tail _ (.tail _ (.tail _ z)))))
        refine ret R _ _ _ bF (bN fun q hq => .tail _ (.tail _ (.tail _ (.tail _ (s1 q (sub0 q hq)))))) ?_
        rw [← mergedD_recs, ← hrs]
        exact DL.tuple (.inr (.head _)) rfl rfl rfl (.cons (DL.tuple (.inr (.tail _ (.head _))) rfl rfl rfl (s7.up up)) (.cons (DL.list (.inr (.tail _ (.tail _ (.head _)))) rfl rfl rfl (s8.up up)) .nil))
      ktr_unf
      with_reducible rename News g _ _ (_ :: (T2, _) :: _) => nN
      with_reducible rename Fr g _ _ _ => nF
      exact fin nF nN
end Mine
end

section
open PySem PySem.Spec PySem.W PyProof.Rows PySem.Calls PyProof.Rows.LCg
namespace Mine
/-- by rising keys -/
noncomputable def Rising (ts : List Tri) : Prop := ts.Pairwise fun t u => t.1.1 ≠ u.1.1 ∧ lexLt t.1.1 u.1.1 = true ∧ lexLt u.1.1 t.1.1 = false
theorem triOf_rising {ka kb kc : List Str} {Ka Kb Kc : Addr} {a b c : Cel} (h : K3 ka kb kc) : Rising (triOf (ka, Ka) (kb, Kb) (kc, Kc) a b c) := by
  have ab := h.ab
  have ac := h.ac
  have bc := h.bc
  match a, b, c with
  | none, none, none => simp [Rising, triOf, opT]
  | none, none, some (_, _) => simp [Rising, triOf, opT]
  | none, some (_, _), none => simp [Rising, triOf, opT]
  | none, some (_, _), some (_, _) => simp [Rising, triOf, opT, bc, h.lbc, h.lcb]
  | some (_, _), none, none => simp [Rising, triOf, opT]
  | some (_, _), none, some (_, _) => simp [Rising, triOf, opT, ac, h.lac, h.lca]
  | some (_, _), some (_, _), none => simp [Rising, triOf, opT, ab, h.lab, h.lba]
  | some (_, _), some (_, _), some (_, _) => simp [Rising, triOf, opT, ab, ac, bc, h.lab, h.lac, h.lbc, h.lba, h.lca, h.lcb]
theorem Trips.get {A : Addr → Obj → Prop} {ts : List Tri} {ys : List Value} (h : Trips A ts ys) {i : Nat} (hi : i < ys.length) (hi' : i < ts.length) : ∃ T tn tx, ys.getD i Value.none = .ref T ∧ A T (tup [.ref (ts[i]).1.2, .str (ts[i]).2.1 tn, .str (ts[i]).2.2 tx]) ∧ KeyAt A (ts[i]).1.1 (ts[i]).1.2 := by
  obtain ⟨k, a, n, x, T, tn, tx, e1, e2, e3, e4, -⟩ := h.at (List.getElem?_eq_getElem hi)
  have e5 : ts[i] = ((k, a), n, x) := by
    rw [List.getElem?_eq_getElem hi'] at e1
    exact Option.some.inj e1
  refine ⟨T, tn, tx, ?_, ?_, ?_⟩
  · simp [List.getD, hi, e2]
  · rw [e5]; exact e3
  · rw [e5]; exact e4
theorem Trips.tups {h : Heap} {ts : List Tri} {ys : List Value} (x : Trips (fun a o => h.get? a = some o) ts ys) : ∃ fs, KatTups h ys fs ∧ fs.length = ys.length ∧ ∀ v ∈ fs, ∃ a, v = .ref a ∧ ∃ vs, h.get? a = some (tup vs) := by
  induction x with
  | nil => exact ⟨[], .nil, rfl, fun _ h => nomatch h⟩
  | cons h1 h2 _ _ _ ih =>
    obtain ⟨fs, k1, k2, k3⟩ := ih
    refine ⟨_, .cons h1 rfl rfl rfl k1, by simp [k2], fun v hv => ?_⟩
    rcases List.mem_cons.mp hv with rfl | hv
    · obtain ⟨x, y, t, u, -, e, -⟩ := h2
      exact ⟨_, rfl, _, e⟩
    · exact k3 v hv
section
variable {prog : Program} {w : World} {A : Around} {E : Value → Shared → Prop} {s : Shared}
theorem looks_ref {M : Model} {h : Heap} {a : Addr} {o : Obj} (e : h.get? a = some o) : Looks M h (typeOf (.ref a)) o.cls := (Looks.ld e).andThen .now
theorem evId (n : Nat) (h : n = 2 ∨ n = 3) : ∃ p : Array Nat, evalT n (fun i j => decide (i < j)) (kas_sort n) = some p ∧ p.toList = List.range n := by
  rcases h with rfl | rfl
  · exact ⟨_, evId2, rfl⟩
  · exact ⟨_, evId3, rfl⟩
/-- sorted of a list of triples that rise -/
theorem sortedTrips {g : Heap} {L : Addr} {m : Str → Option Value} {news : Led} {l : Addr} {c : Nat} {ts : List Tri} {ys : List Value} {Q : Value → Shared → Prop} (F : Fr g L s.heap m) (N : News g L s.heap news) (hl : (l, W.listOf ys.toArray c) ∈ news) (ht : Trips (At g news) ts ys) (hr : Rising ts) (h3 : ts.length ≤ 3) (hu : A.units + 8 < cLine)
    (h : ∀ D c' h', Fr g L h' m → News g L h' ((D, W.listOf ys.toArray c') :: news) → AllLt D news → Q (.ref D) { s with heap := h' }) :
    wpAny (model prog w) A (call (.builtin "sorted") [.ref l]) Q E s := by
  have hlen := ht.length
  refine Calls.call_function_entry kind_sorted plain_sorted entry_sorted (args_sorted1 _) ?_
  unfold Builtin.«sorted»
  refine wpAny_bind (m := checkCount "sorted" 1 1 _) (wpAny_pure ?_)
  refine wpAny_bind (collect_list (show Heap.IsList s.heap l ys.toArray from ⟨_, (N _ hl).1, rfl, c, rfl⟩) ?_ (by rw [sizeLine_eq]; omega))
  refine wpAny_bind (wpAny_newList ?_ (by rw [sizeLine_eq]; omega))
  have hsz : ((s.heap.push (seqObj "list" #[] 0)).update s.heap.objs.size (Obj.mapSeq (· ++ ys.toArray))).objs.size = s.heap.objs.size + 1 := by
    rw [Heap.size_update, size_push']
  have hoL : (((s.heap.push (seqObj "list" #[] 0)).update s.heap.objs.size (Obj.mapSeq (· ++ ys.toArray))).push (seqObj "list" ys.toArray 0)).get? (s.heap.objs.size + 1) = some (seqObj "list" ys.toArray 0) := by
    rw [← hsz]; exact Heap.get?_push_size _ rfl
  have keep : ∀ b o, s.heap.get? b = some o → (((s.heap.push (seqObj "list" #[] 0)).update s.heap.objs.size (Obj.mapSeq (· ++ ys.toArray))).push (seqObj "list" ys.toArray 0)).get? b = some o := fun b o q => by
    have hlt : b < s.heap.objs.size := Heap.lt_size q
    rw [Heap.get?_push_ne _ _ _ (by rw [hsz]; exact Nat.ne_of_lt (Nat.lt_succ_of_lt hlt)), Heap.get?_update_ne _ _ _ _ (Nat.ne_of_lt hlt), Heap.get?_push_ne _ _ _ (Nat.ne_of_lt hlt)]
    exact q
  have hL : L < s.heap.objs.size := F.ns.lt
  show wpAny _ _ _ _ _ { s with heap := ((s.heap.push (seqObj "list" #[] 0)).update s.heap.objs.size (Obj.mapSeq (· ++ ys.toArray))).push (seqObj "list" ys.toArray 0) }
  rw [hsz]
  generalize hH : ((s.heap.push (seqObj "list" #[] 0)).update s.heap.objs.size (Obj.mapSeq (· ++ ys.toArray))).push (seqObj "list" ys.toArray 0) = H at hoL keep ⊢
  have nD : ∀ b o, s.heap.get? b = some o → b ≠ s.heap.objs.size + 1 := fun b o q => Nat.ne_of_lt (Nat.lt_succ_of_lt (Heap.lt_size q))
  have F' : Fr g L H m := F.kept keep
  have N' : News g L H news := N.grown keep
  have tH : ∀ s' : Shared, (∀ b o, b ≠ s.heap.objs.size + 1 → H.get? b = some o → s'.heap.get? b = some o) → Trips (fun a o => s'.heap.get? a = some o) ts ys := fun s' hs' => ht.up fun a o x => hs' a o (nD a o (At.get F N _ _ x)) (At.get F' N' _ _ x)
  refine wpAny_bind (wpAny_holding (wpAny_call_entry slot_list_sort ⟨_, hoL, rfl⟩ entry_list_sort (sort_tree (s := { s with heap := H }) (vs := ys) (κ := tuples' false) (lt := fun i j => decide (i < j)) (out := ys) hoL (by omega) ?_ ?_ ?_ rfl ?_) (args_list_sort _)))
  · intro h2 s' hs' Q' hq
    obtain ⟨fs, k1, k2, k3⟩ := (tH s' hs').tups
    exact kat_kind (T := .type "tuple") k1 (by rw [k2]; omega) (fun v hv => by obtain ⟨a, rfl, vs, e⟩ := k3 v hv; exact looks_ref e) (by decide) hq
  · intro s' hs' i j C hi hj hne hc
    have tr := tH s' hs'
    have hi' : i < ts.length := by omega
    have hj' : j < ts.length := by omega
    obtain ⟨T1, tn1, tx1, e1, o1, q1⟩ := tr.get hi hi'
    obtain ⟨T2, tn2, tx2, e2, o2, q2⟩ := tr.get hj hj'
    have kk : ∀ {k : List Str} {a : Addr}, KeyAt (fun a o => s'.heap.get? a = some o) k a → IsTupleKey (SK prog w) s'.heap k a := by
      rintro k a ⟨x, y, t, u, rfl, e, -⟩
      exact ⟨_, _, _, e, rfl, rfl, .cons (isStrOf_str x t) (.cons (isStrOf_str y u) .nil)⟩
    have ord : (ts[i]).1.1 ≠ (ts[j]).1.1 ∧ lexLt (ts[i]).1.1 (ts[j]).1.1 = decide (i < j) := by
      have pw := List.pairwise_iff_getElem.mp hr
      rcases Nat.lt_or_gt_of_ne hne with q | q
      · obtain ⟨a1, a2, a3⟩ := pw i j hi' hj' q
        exact ⟨a1, by rw [a2, decide_eq_true q]⟩
      · obtain ⟨a1, a2, a3⟩ := pw j i hj' hi' q
        exact ⟨Ne.symm a1, by rw [a3, decide_eq_false (by omega)]⟩
    unfold kas_ask
    rw [e1, e2]
    refine kat_lt o1 rfl o2 rfl (kat_cons ?_)
    refine wpAny_eqBool_tuple (knd := SK prog w) (show A.in1.in1.units < cLine from by show A.units + 1 + 1 < cLine; omega) (kk q1) (kk q2) ?_
    rw [decide_eq_false ord.1]
    refine kat_no (kat_one _ _ (tup_lt (show A.in1.in1.units < cLine from by show A.units + 1 + 1 < cLine; omega) (kk q1) (kk q2) ?_))
    rw [ord.2]
    exact hc
  · by_cases h2 : ys.length < 2
    · rw [if_pos h2]
    · rw [if_neg h2]
      obtain ⟨p, hp, hpl⟩ := evId ys.length (by omega)
      refine ⟨p, hp, ?_⟩
      rw [hpl]
      apply List.ext_getElem
      · simp
      · intro i h1 h2
        simp [List.getD, h1]
  · intro h2 c' hk2 hD2
    refine ⟨_, rfl, wpAny_pure ⟨_, rfl, h _ c' h2 ⟨F'.ns.at' fun o e => hk2 _ o (Nat.ne_of_lt (Nat.lt_succ_of_lt hL)) e, fun b o e => hk2 b o (nD b o (F.keep b o e)) (F'.keep b o e), F'.above⟩ (fun p hp => ?_) (allLt_of fun p hp => Nat.lt_succ_of_lt (Heap.lt_size (N p hp).1))⟩⟩
    rcases List.mem_cons.mp hp with rfl | hp
    · exact ⟨hD2, Nat.ne_of_gt (Nat.lt_succ_of_lt hL), Heap.get?_none_of_le (Nat.le_trans F.above (Nat.le_succ_of_le (Nat.le_of_lt hL)))⟩
    · exact ⟨hk2 _ _ (nD _ _ (N p hp).1) (N' p hp).1, (N p hp).2⟩
end
end Mine
end

section
open PySem PySem.Spec PySem.W PyProof.Rows PySem.Calls PyProof.Rows.LCg
namespace Mine
theorem linesCE21 : True := by
  k_with_none
  k_with "ne" => (refine neN ?_; (try dsimp only); first | with_reducible assumption | with_reducible exact Ne.symm (by with_reducible assumption) | exact Nat.ne_of_lt (by first | with_reducible assumption | ((refine ltC (by with_reducible assumption) ?_); (repeat (first | with_reducible exact takeL | with_reducible exact sameL | with_reducible refine skipL ?_)); done) | fail) | exact Ne.symm (Nat.ne_of_lt (by first | with_reducible assumption | ((refine ltC (by with_reducible assumption) ?_); (repeat (first | with_reducible exact takeL | with_reducible exact sameL | with_reducible refine skipL ?_)); done) | fail)) | omega)
  k_with "unf" => repeat' (first | (k_unfold; (try dsimp only)) | ((try dsimp only); w_not_for; (fail_if_success (with_reducible show wpAny _ _ (eval (PySem.Expr.ListComp _ _ _ _) _) _ _ _)); (fail_if_success (with_reducible show wpAny _ _ (call (Value.type "tuple") _) _ _ _)); (fail_if_success (with_reducible show wpAny _ _ (call (Value.builtin "sorted") _) _ _ _)); walk1) | fail "no step")
  trivial

theorem elementForm {w : World} {dp un : Nat} {fs : Option (List Env)} {gd : Option (List Code)} {s : Shared} {Q E : Value → Shared → Prop} {h₀ : Heap} {L : Addr} {m : Str → Option Value} {news : Led} {label : Value} {Al Ch : Addr} {ys ws : List Value} {c c2 : Nat} {ts : List Tri}
    (G : Gr w h₀) (F : Fr h₀ L s.heap m) (N : News h₀ L s.heap news) (hdp : dp + 16 < recursionLimit) (hun : un + 100 < cLine) (mA : (Al, W.listOf ys.toArray c) ∈ news) (mC : (Ch, W.listOf ws.toArray c2) ∈ news) (hw : ws.length ≤ 3) (ht : Trips (At h₀ news) ts ys) (hr : Rising ts) (h3 : ts.length ≤ 3)
    (ret : ∀ Fm A' C' t1 t2 h' tk, Fr h₀ L h' m → News h₀ L h' ((Fm, tup [.str "element" t1, label, .str "" t2, .ref A', .ref C']) :: (C', tup ws) :: (A', tup ys) :: news) → AllLt A' news → @LT.lt Nat _ A' C' ∧ AllLt C' news → @LT.lt Nat _ C' Fm ∧ @LT.lt Nat _ A' Fm ∧ AllLt Fm news → Q (.ref Fm) { s with heap := h', toks := tk }) :
    wpAny (model PySem.Challenge.pw_xm0632_01 w) (AR dp un fs gd) (call (.ref 35) [label, .ref Al, .ref Ch]) Q E s := by
  obtain ⟨⟨loose, mean, mg, mb, T⟩, X⟩ := G
  refine wpAny_call ?_
  refine enterS [(Str.ofString "label", label), (Str.ofString "attributes", .ref Al), (Str.ofString "children", .ref Ch)] news (fun _ h => h) X T F N (by k_is) (by k_is) (by omega) (BindsTo.of_eq rfl) (locs rfl) (by decide) rfl rfl rfl ?_
  intro g L' h₁ X' T' sg hAt back F' N' lt'
  replace ht := ht.up hAt
  have hlen := ht.length
  have fin : ∀ {Fm A' C' : Addr} {t1 t2 : Tok} {h' : Heap} {tk : Nat} {m' : Str → Option Value} {D : Addr} {oD : Obj}, Fr g L' h' m' → News g L' h' ((Fm, tup [.str "element" t1, label, .str "" t2, .ref A', .ref C']) :: (C', tup ws) :: (A', tup ys) :: (D, oD) :: news) → AllLt A' news → @LT.lt Nat _ A' C' ∧ AllLt C' news → @LT.lt Nat _ C' Fm ∧ @LT.lt Nat _ A' Fm ∧ @LT.lt Nat _ D Fm ∧ AllLt Fm news → Q (.ref Fm) { s with heap := h', toks := tk } := by
    intro Fm A' C' t1 t2 h' tk m' D oD qF qN q1 q2 q3
    obtain ⟨bF, bN, -, -⟩ := back _ _ _ qF qN
    exact ret Fm A' C' t1 t2 h' tk bF (fun p hp => bN p (by
      (revert hp; revert p; (repeat (refine List.forall_mem_cons.mpr ⟨by (repeat (first | with_reducible exact List.mem_cons_self | with_reducible refine List.mem_cons_of_mem _ ?_)), ?_⟩)); exact fun p hp => by ((repeat (with_reducible refine List.mem_cons_of_mem _ ?_)); exact hp)))) q1 q2 ⟨q3.1, q3.2.1, q3.2.2.2⟩
  clear F N X T hAt back lt'
  ktr_unf
  with_reducible rename News g L' _ _ => nN
  with_reducible rename Fr g L' _ _ => nF
  refine sortedTrips nF nN mA ht hr h3 (by (first | exact room hdp rfl | exact room hun rfl | (dsimp only [AR, Around.deeper]; omega))) ?_
  intro D1 c3 h3' nF3 nN3 lt3
  ktr_unf
  refine kde_tupleOf nF3 nN3 ⟨_, (nN3 _ (.head _)).1, rfl, _, rfl⟩ (by simp; omega) (zs := ys) (by simp) ?_
  intro T2 hT nF2 nN2 lt2
  ktr_unf
  refine kde_tupleOf nF2 nN2 ⟨_, (nN2 _ (.tail _ (.tail _ mC))).1, rfl, _, rfl⟩ (by simp; omega) (zs := ws) (by simp) ?_
  intro T4 hT4 nF4 nN4 lt4
  have a1 : AllLt T2 news := allLt_of fun p hp => lt2 p (.tail _ hp)
  have a2 : @LT.lt Nat _ T2 T4 ∧ AllLt T4 news := ⟨lt4 _ (.head _), allLt_of fun p hp => lt4 p (.tail _ (.tail _ hp))⟩
  ktr_unf
  with_reducible rename News g _ _ (_ :: (T4, _) :: _) => nN5
  with_reducible rename Fr g _ _ _ => nF5
  exact fin nF5 nN5 a1 a2 (by with_reducible assumption)
end Mine
end

section
open PySem PySem.W PyProof.Rows PySem.Calls
namespace Mine
/-- the source's list: two ints -/
noncomputable def SrcO (o : Obj) : Prop := ∃ a ta b tb n, o = W.listOf #[.int a ta, .int b tb] n
theorem fm {x t : Int} (h : 0 < t) : 0 ≤ x.fmod t ∧ x.fmod t < t := ⟨Int.fmod_nonneg_of_pos x h, Int.fmod_lt_of_pos x h⟩
theorem sqOk {a z y : Int} : IntMulOk ([a, Int.fmod z 2147483647].getD (Int.toNat 1) 0) y := by
  have h := fm (x := z) (t := 2147483647) (by decide)
  refine IntMulOk.of_left (intBits_le_64 ?_ ?_)
  · show -(2 ^ 64 : Int) < Int.fmod z 2147483647
    omega
  · show Int.fmod z 2147483647 < 2 ^ 64
    omega
theorem linesCT1 : True := by
  k_with_none
  k_with "ne" => (refine neN ?_; (try dsimp only); first | with_reducible assumption | with_reducible exact Ne.symm (by with_reducible assumption) | exact Nat.ne_of_lt (by first | with_reducible assumption | ((refine ltC (by with_reducible assumption) ?_); (repeat (first | with_reducible exact takeL | with_reducible exact sameL | with_reducible refine skipL ?_)); done) | fail) | exact Ne.symm (Nat.ne_of_lt (by first | with_reducible assumption | ((refine ltC (by with_reducible assumption) ?_); (repeat (first | with_reducible exact takeL | with_reducible exact sameL | with_reducible refine skipL ?_)); done) | fail)) | omega)
  k_with "binaryOp Mult int int" => ((with_reducible refine mul_int ?_ (hm := (by first | (exact sqOk) | fail))))
  k_with "unf" => repeat' (first | (k_unfold; (try dsimp only)) | (w_not_for; walk1) | (dsimp only; w_not_for; walk1) | fail "no step")
  trivial

theorem lawTake {w : World} {dp un : Nat} {fs : Option (List Env)} {gd : Option (List Code)} {s : Shared} {Q E : Value → Shared → Prop} {h₀ : Heap} {L : Addr} {m : Str → Option Value} {news : Led} {S : Addr} {o : Obj} {up : Obj → Led} {top : Int} {tt : Tok}
    (G : Gr w h₀) (F : Fr h₀ L s.heap m) (N : News h₀ L s.heap news) (hdp : dp + 8 < recursionLimit) (hun : un + 100 < cLine) (U : UpdF S o news up) (ho : SrcO o) (htop : 0 < top) (hhi : top < 8)
    (ret : ∀ r t o' h' tk, 0 ≤ r → r < top → SrcO o' → Fr h₀ L h' m → News h₀ L h' (up o') → Q (.int r t) { s with heap := h', toks := tk }) :
    wpAny (model PySem.Challenge.pw_xm0632_01 w) (AR dp un fs gd) (call (.ref 85) [.ref S, .int top tt]) Q E s := by
  obtain ⟨⟨loose, mean, mg, mb, T⟩, X⟩ := G
  obtain ⟨a, ta, b, tb, n, rfl⟩ := ho
  obtain ⟨pre, post, rfl, hup, hpre, hpost⟩ := U.split
  refine wpAny_call ?_
  refine enterS [(Str.ofString "source", .ref S), (Str.ofString "top", .int top tt)] [(S, W.listOf #[.int a ta, .int b tb] n)] (fun p h => by rw [List.mem_singleton.mp h]; exact List.mem_append_right _ (.head _)) X T F N (by k_is) (by k_is) (by omega) (BindsTo.of_eq rfl) (locs rfl) (by decide) rfl rfl rfl ?_
  intro g L' h₁ X' T' sg hAt back F' N' lt'
  have fin : ∀ r t h' tk m' a' ta' b' tb' n', 0 ≤ r → r < top → Fr g L' h' m' → News g L' h' [(S, W.listOf #[.int a' ta', .int b' tb'] n')] → Q (.int r t) { s with heap := h', toks := tk } := by
    intro r t h' tk m' a' ta' b' tb' n' h0 h1 nF nN
    obtain ⟨bF, bN, bo, -⟩ := back _ _ _ nF nN
    refine ret _ _ (W.listOf #[.int a' ta', .int b' tb'] n') _ _ h0 h1 ⟨_, _, _, _, _, rfl⟩ bF ?_
    rw [hup]
    intro p hp
    rcases List.mem_append.mp hp with hp | hp
    · exact ⟨bo p (List.mem_append_left _ hp) (by simpa using hpre p hp), (N p (List.mem_append_left _ hp)).2⟩
    · rcases List.mem_cons.mp hp with rfl | hp
      · exact bN _ (.head _)
      · exact ⟨bo p (List.mem_append_right _ (.tail _ hp)) (by simpa using hpost p hp), (N p (List.mem_append_right _ (.tail _ hp))).2⟩
  clear F N X T hAt back
  ktr_unf
  · with_reducible rename News g L' _ _ => nN
    with_reducible rename Fr g L' _ _ => nF
    exact fin _ _ _ _ _ _ _ _ _ _ (fm htop).1 (fm htop).2 nF nN
  · with_reducible rename News g L' _ _ => nN
    with_reducible rename Fr g L' _ _ => nF
    exact fin _ _ _ _ _ _ _ _ _ _ (fm htop).1 (fm htop).2 nF nN
end Mine
end

section
open PySem PySem.W PyProof.Rows PySem.Calls
namespace Mine
theorem lenLst {prog : Program} {w : World} {A : Around} {E : Value → Shared → Prop} {s : Shared} {h₀ : Heap} {L : Addr} {l : Addr} {items : Array Value} {c : Nat} {news : Led} {Q : Value → Shared → Prop} (N : News h₀ L s.heap news) (hm : (l, W.listOf items c) ∈ news) (hfit : (items.size : Int) < 8)
    (h : Q (.int items.size (s.toks + 1)) { s with toks := s.toks + 1 + 1 }) : wpAny (model prog w) A (call (.builtin "len") [.ref l]) Q E s := len_list ⟨_, (N _ hm).1, rfl, c, rfl⟩ (by omega) h
theorem itemMem {prog : Program} {w : World} {A : Around} {E : Value → Shared → Prop} {s : Shared} {h₀ : Heap} {L : Addr} {value slice : PySem.Expr} {a : Addr} {ws : List Value} {c : Nat} {news : Led} {k : Int} {u : Tok} {Q : Value → Shared → Prop} (N : News h₀ L s.heap news) (hm : (a, W.listOf ws.toArray c) ∈ news)
    (h0 : 0 ≤ k) (h1 : k < ((ws.toArray.size : Nat) : Int)) (hz : ((ws.toArray.size : Nat) : Int) < 8) (h : ∀ x ∈ ws, Q x s)
    (hs : subscripted slice false (.ref a) (.int k u) = operate [.ref a, .int k u] (getItem (.ref a) (.int k u)) := by with_unfolding_all rfl) (hg : ∀ r, letTemporaryGo value (.ref a) r = pure () := by intro _; with_unfolding_all rfl) :
    wpAny (model prog w) A (subscriptTail value slice (.ref a) (.int k u)) Q E s := by
  have hlt : k.toNat < ws.length := by simp at h1; omega
  exact item_listL ⟨_, (N _ hm).1, rfl, c, rfl⟩ h0 (by omega) (List.getElem?_eq_getElem hlt) (h _ (List.getElem_mem hlt)) hs hg
theorem linesCT21 : True := by
  k_with_none
  k_with "ne" => (refine neN ?_; (try dsimp only); first | with_reducible assumption | with_reducible exact Ne.symm (by with_reducible assumption) | exact Nat.ne_of_lt (by first | with_reducible assumption | ((refine ltC (by with_reducible assumption) ?_); (repeat (first | with_reducible exact takeL | with_reducible exact sameL | with_reducible refine skipL ?_)); done) | fail) | exact Ne.symm (Nat.ne_of_lt (by first | with_reducible assumption | ((refine ltC (by with_reducible assumption) ?_); (repeat (first | with_reducible exact takeL | with_reducible exact sameL | with_reducible refine skipL ?_)); done) | fail)) | omega)
  k_with "call builtin:len" => (k_here; (with_reducible show wpAny _ _ (call (Value.builtin "len") [Value.ref _]) _ _ _); k_dflt (refine' lenLst (by k_asm) (by first | k_mem | fail) (by with_reducible assumption) ?_))
  k_with "subscriptTail Name Call ref int" => (k_here; k_dflt (refine' itemMem (by k_asm) (by first | k_mem | fail) (by with_reducible assumption) (by with_reducible assumption) (by with_reducible assumption) ?_); intro wx' whx')
  k_with "sub" => ((try simp only [depth_under_make, depth_under_kw, depth_in1, depth_deeper, depth_caller, units_in1, units_deeper]); (try dsimp only [AR]); omega)
  k_with "call ref" => (k_here; (with_reducible show wpAny _ _ (call (Value.ref 85) [_, _]) _ _ _); k_dflt (refine' lawTake (grOf (by k_asm) (by k_asm)) (by k_asm) (by k_asm) (by first | kqd_sub | fail) (by first | kqd_sub | fail) (by first | k_updF | fail) (by with_reducible assumption) (by first | (first | with_reducible assumption | decide) | fail) (by first | (first | with_reducible assumption | decide) | fail) ?_; k_whole); intro wr' wt' wo' wh' wtk' wl1 wl2 wl3 wF' wN'; (try dsimp only at wN'); (try k_sweep))
  k_with "unf" => repeat' (first | (k_unfold; (try dsimp only)) | (w_not_for; walk1) | (dsimp only; w_not_for; walk1) | fail "no step")
  trivial

theorem lawOne {w : World} {dp un : Nat} {fs : Option (List Env)} {gd : Option (List Code)} {s : Shared} {Q E : Value → Shared → Prop} {h₀ : Heap} {L : Addr} {m : Str → Option Value} {news : Led} {S T : Addr} {o : Obj} {up : Obj → Led} {ws : List Value} {n : Nat}
    (G : Gr w h₀) (F : Fr h₀ L s.heap m) (N : News h₀ L s.heap news) (hdp : dp + 16 < recursionLimit) (hun : un + 150 < cLine) (U : UpdF S o news up) (ho : SrcO o) (hT : (T, W.listOf ws.toArray n) ∈ news) (hTS : @Ne Nat T S) (hl : 0 < ws.length) (hh : ws.length < 8)
    (ret : ∀ v o' h' tk, v ∈ ws → SrcO o' → Fr h₀ L h' m → News h₀ L h' (up o') → Q v { s with heap := h', toks := tk }) :
    wpAny (model PySem.Challenge.pw_xm0632_01 w) (AR dp un fs gd) (call (.ref 92) [.ref S, .ref T]) Q E s := by
  obtain ⟨⟨loose, mean, mg, mb, TT⟩, X⟩ := G
  obtain ⟨pre, post, rfl, hup, hpre, hpost⟩ := U.split
  refine wpAny_call ?_
  refine enterS [(Str.ofString "source", .ref S), (Str.ofString "things", .ref T)] [(S, o), (T, W.listOf ws.toArray n)] (fun p h => by
    rcases List.mem_cons.mp h with rfl | h
    · exact List.mem_append_right _ (.head _)
    · rw [List.mem_singleton.mp h]; exact hT) X TT F N (by k_is) (by k_is) (by omega) (BindsTo.of_eq rfl) (locs rfl) (by decide) rfl rfl rfl ?_
  intro g L' h₁ X' T' sg hAt back F' N' lt'
  have fin : ∀ v o' h' tk m', v ∈ ws → SrcO o' → Fr g L' h' m' → News g L' h' [(S, o'), (T, W.listOf ws.toArray n)] → Q v { s with heap := h', toks := tk } := by
    intro v o' h' tk m' hv ho' nF nN
    obtain ⟨bF, bN, bo, -⟩ := back _ _ _ nF nN
    refine ret _ o' _ _ hv ho' bF ?_
    rw [hup]
    intro p hp
    have old : ∀ q, q ∈ pre ++ (S, o) :: post → q.1 ≠ S → h'.get? q.1 = some q.2 := fun q hq hn => by
      by_cases h : q.1 = T
      · have e1 := (N q hq).1
        have e2 := (N _ hT).1
        rw [h] at e1
        have : q = (T, W.listOf ws.toArray n) := by
          obtain ⟨qa, qo⟩ := q
          simp only at h e1
          subst h
          rw [e1] at e2
          cases e2; rfl
        rw [this]
        exact (bN _ (.tail _ (.head _))).1
      · exact bo q hq (by simp; exact ⟨hn, h⟩)
    rcases List.mem_append.mp hp with hp | hp
    · exact ⟨old p (List.mem_append_left _ hp) (hpre p hp), (N p (List.mem_append_left _ hp)).2⟩
    · rcases List.mem_cons.mp hp with rfl | hp
      · exact bN _ (.head _)
      · exact ⟨old p (List.mem_append_right _ (.tail _ hp)) (hpost p hp), (N p (List.mem_append_right _ (.tail _ hp))).2⟩
  have hl' : 0 < ((ws.toArray.size : Nat) : Int) := by simpa using hl
  have hh' : ((ws.toArray.size : Nat) : Int) < 8 := by simp; omega
  clear F N X TT hAt back hl hh
  ktr_unf
  with_reducible rename News g L' _ _ => nN
  with_reducible rename Fr g L' _ _ => nF
  exact fin _ _ _ _ _ (by with_reducible assumption) (by with_reducible assumption) nF nN
end Mine
end

section
open PySem PySem.Spec PySem.W PyProof.Rows PySem.Calls PyProof.Rows.LCg
namespace Mine
theorem updF_again {S : Addr} {o o' : Obj} {l : Led} {up : Obj → Led} (U : UpdF S o l up) : UpdF S o' (up o') up := by
  induction U with
  | head h => exact .head h
  | tail h _ ih => exact .tail h ih
theorem updF_same {S : Addr} {o : Obj} {l : Led} {up : Obj → Led} (U : UpdF S o l up) : up o = l := by
  induction U with
  | head h => rfl
  | tail h _ ih => simp [ih]
theorem updF_mem {S : Addr} {o o' : Obj} {l : Led} {up : Obj → Led} (U : UpdF S o l up) : ∀ q ∈ l, q.1 ≠ S → q ∈ up o' := by
  induction U with
  | head h =>
    intro q hq hn
    rcases List.mem_cons.mp hq with rfl | hq
    · exact absurd rfl hn
    · exact .tail _ hq
  | tail h _ ih =>
    intro q hq hn
    rcases List.mem_cons.mp hq with rfl | hq
    · exact .head _
    · exact .tail _ (ih q hq hn)
theorem updF_addr {S : Addr} {o o' : Obj} {l : Led} {up : Obj → Led} (U : UpdF S o l up) : (up o').map (·.1) = l.map (·.1) := by
  induction U with
  | head h => rfl
  | tail h _ ih => simp [ih]
theorem off3_addr {I C D : Addr} : ∀ {l l' : Led}, l.map (·.1) = l'.map (·.1) → Off3 I C D l → Off3 I C D l'
  | [], [], _, h => h
  | [], _ :: _, e, _ => by simp at e
  | _ :: _, [], e, _ => by simp at e
  | p :: r, q :: r', e, h => by
    simp only [List.map_cons, List.cons.injEq] at e
    obtain ⟨h1, h2⟩ := h
    rw [e.1] at h1
    exact ⟨h1, off3_addr e.2 h2⟩
theorem addr_lt {D : Addr} {l l' : Led} (e : l'.map (·.1) = l.map (·.1)) (h : ∀ p ∈ l, @LT.lt Nat _ p.1 D) : ∀ p ∈ l', @LT.lt Nat _ p.1 D := fun p hp => by
  have : p.1 ∈ l.map (·.1) := by rw [← e]; exact List.mem_map_of_mem hp
  obtain ⟨q, hq, e'⟩ := List.mem_map.mp this
  rw [← e']; exact h q hq
theorem updF_in {S : Addr} {o : Obj} {l : Led} {up : Obj → Led} (U : UpdF S o l up) : (S, o) ∈ l := by
  induction U with
  | head h => exact .head _
  | tail h _ ih => exact .tail _ ih
section
variable {w : World} {dp un : Nat} {fs : Option (List Env)} {gd : Option (List Code)} {s : Shared} {Q E : Value → Shared → Prop} {h₀ : Heap} {L : Addr} {m : Str → Option Value} {news : Led} {env : Env}
theorem rng_small9 : ∀ k : Fin 9, Builtin.Range.small 0 ((k.1 : Nat) : Int) 1 = true ∧ Builtin.Range.rangeSize 0 ((k.1 : Nat) : Int) 1 = ((k.1 : Nat) : Int) := by decide +kernel
theorem rng_small {n : Nat} (h : n ≤ 8) : Builtin.Range.small 0 (n : Int) 1 = true ∧ Builtin.Range.rangeSize 0 (n : Int) 1 = (n : Int) := rng_small9 ⟨n, Nat.lt_succ_of_le h⟩
noncomputable def RngSrc (w : World) (A : Around) (h₀ : Heap) (L : Addr) (m : Str → Option Value) (env : Env) (elt target : PySem.Expr) (scope : Scope) (cl : List (Str × Addr)) (Q : Value → Shared → Prop) (xv : Value) (s₁ : Shared) : Prop :=
  RngS PySem.Challenge.pw_xm0632_01 w A h₀ L m env elt target [] scope cl Q xv s₁
/-- what is left of a comprehension of takings when its range stands -/
theorem takings {elt : PySem.Expr} {x : Str} {px : Pos} {scope : Scope} {cl : List (Str × Addr)} {S T r : Addr} {o : Obj} {up : Obj → Led} {ws : List Value} {c n : Nat} {b : Int} {t u v : Tok}
    (G : Gr w h₀) (F : Fr h₀ L s.heap m) (N : News h₀ L s.heap news) (hdp : dp + 16 < recursionLimit) (hun : un + 150 < cLine) (hr : IsRange s.heap r 0 b 1 t u v) (hb : b = (n : Int)) (hn : n ≤ 8)
    (hkind : scope.kind = .function) (hx : scope.names.lookup x = some .local) (U : UpdF S o news up) (ho : SrcO o) (hT : (T, W.listOf ws.toArray c) ∈ news) (hTS : @Ne Nat T S) (hl : 0 < ws.length) (hh : ws.length < 8)
    (helt : ∀ C oC I oI D ys o' h tk m₂ (R E' : Value → Shared → Prop), Fr h₀ L h m → News h₀ L h ((I, oI) :: (C, oC) :: (D, lst ys) :: up o') → NsObj oC m₂ → wpAny (model PySem.Challenge.pw_xm0632_01 w) (AR dp un fs gd) (call (.ref 92) [.ref S, .ref T]) R E' { s with heap := h, toks := tk } →
      wpAny (model PySem.Challenge.pw_xm0632_01 w) (AR dp un fs gd) (eval elt (compEnvC scope cl C env)) R E' { s with heap := h, toks := tk })
    (ret : ∀ D ys o' h' tk, ys.length = n → (∀ y ∈ ys, y ∈ ws) → SrcO o' → Fr h₀ L h' m → News h₀ L h' ((D, lst ys) :: up o') → AllLt D (up o') → Q (.ref D) { s with heap := h', toks := tk }) :
    RngSrc w (AR dp un fs gd) h₀ L m env elt (.Name x px) scope cl Q (.ref r) s := by
  subst hb
  refine ⟨r, 0, (n : Int), t, u, v, n, news, fun v m' => m' x = some v, rfl, F, N, hr, ?_, ?_, by rw [sizeLine_eq]; omega, asg_name hkind hx, fun gg => ?_⟩
  · exact (rng_small hn).1
  · exact (rng_small hn).2
  · refine crest_inv (fun i ys nl => ys.length = i ∧ (∀ y ∈ ys, y ∈ ws) ∧ ∃ o', SrcO o' ∧ nl = up o') ?_ ?_ _ _ _ _ (Nat.zero_add _) ⟨rfl, (fun _ h => nomatch h), o, ho, (updF_same U).symm⟩
    · rintro i v' ys nl I oI C oC D m₂ h tk E' R R0 hi hP ⟨h1, h2, o', ho', rfl⟩ hB hoC F₁ N₁ off ne hR hR0
      refine tests_nil ?_
      rw [if_pos rfl]
      refine helt C oC I oI D ys o' h tk m₂ R E' F₁ N₁ hoC ?_
      have U' := updF_again (o' := o') U
      have hS := off.mem _ (updF_in U')
      refine lawOne G F₁ N₁ (by omega) (by omega) (.tail (Ne.symm hS.1) (.tail (Ne.symm hS.2.1) (.tail (Ne.symm hS.2.2) U'))) ho' (.tail _ (.tail _ (.tail _ (updF_mem U _ hT hTS)))) hTS hl hh ?_
      intro v o2 h' tk' hv ho2 F₂ N₂
      exact hR v h' tk' _ F₂ N₂ (off3_addr (by rw [updF_addr U, updF_addr U]) off) trivial ⟨by simp [h1], fun y hy => by
        rcases List.mem_append.mp hy with hy | hy
        · exact h2 y hy
        · rw [List.mem_singleton.mp hy]; exact hv, o2, ho2, rfl⟩
    · rintro ys nl ⟨h1, h2, o', ho', rfl⟩ D h tk F₁ N₁ o1 hlt
      exact ret D ys o' h tk h1 h2 ho' F₁ N₁ (allLt_of fun p hp => addr_lt (updF_addr U) hlt p hp)
theorem comp_rng {elt target iter : PySem.Expr} {scope : Scope} {cl : List (Str × Addr)} {pos : Pos} {A : Around} (_F : Fr h₀ L s.heap m) (hh : A.handled = none)
    (hclos : closureFor scope env = pure cl) (hcell : ∀ y ∈ scope.names, y.2 ≠ .cell) (hkind : scope.kind = .function)
    (hnames : ∀ y ∈ scope.names, y.2 = .local → scope.names.lookup y.1 = some .local) (hs : ∀ x, foldedSetIterable iter env x = pure x)
    (h : wpAny (model PySem.Challenge.pw_xm0632_01 w) A (eval iter env) (RngSrc w A h₀ L m env elt target scope cl Q) E s) :
    wpAny (model PySem.Challenge.pw_xm0632_01 w) A (eval (.ListComp elt [⟨target, iter, [], 0⟩] scope pos) env) Q E s := comp_range hh hclos hcell hkind hnames hs h
end
end Mine
end

section
open PySem PySem.Spec PySem.W PyProof.Rows PySem.Calls PyProof.Rows.LCg
namespace Mine
/-- a def with cells is entered: as enterS -/
theorem enterSC {prog : Program} {w : World} {dp un : Nat} {fs : Option (List Env)} {gd : Option (List Code)} {K : Frag} {p : Program} {loose : List Str} {mean : ExcName → Option Value} {mg mb : Str → Option Value} {h₀ : Heap} {s : Shared} {L : Addr} {m : Str → Option Value} {news : Led}
    {R : Result → Shared → Prop} {f : Addr} {args : Args} {name qual : Str} {params : Arguments} {body : List Stmt} {scope : Scope} {dV kV doc pm cdv ct oc : Value} {an od : Option Addr} {osl : Array (Option Value)}
    (binds : List (Str × Value)) (sub : Led) (hsub : ∀ p ∈ sub, p ∈ news) (X : K.In h₀) (T : Top p loose mean mg mb h₀) (F : Fr h₀ L s.heap m) (N : News h₀ L s.heap news)
    (ho : K.lookup f = some ⟨oc, od, .func (fnOf name qual params body scope dV kV doc pm an cdv ct), osl⟩) (hcd : codeIn K cdv qual = true) (hroom : dp < recursionLimit)
    (hbind : BindsTo s (fnOf name qual params body scope dV kV doc pm an cdv ct) args binds) (hkind : (binds.all fun y => scope.names.lookup y.1 == some .local || scope.names.lookup y.1 == some .cell) = true)
    (hnd : ((cellsFrom 0 scope.names []).map (·.1)).Nodup) (hco : scope.isCoroutine = false) (hgen : scope.isGenerator = false) (hk : scope.kind = .function)
    (h : ∀ g L' h₁ tk cells, K.In g → Top p loose mean mg mb g → h₀.StaysIn g → (∀ a o, At h₀ news a o → At g sub a o) →
      (∀ h' m' news', Fr g L' h' m' → News g L' h' news' → Fr h₀ L h' m ∧ News h₀ L h' news' ∧ (∀ q ∈ news, q.1 ∉ sub.map Prod.fst → h'.get? q.1 = some q.2) ∧ ((∀ q ∈ sub, q ∈ news') → News h₀ L h' (news' ++ news))) →
      Fr g L' h₁ (bindL (envOfC qual scope L' f cdv).kindOf binds fun _ => none) → News g L' h₁ (cells ++ sub) → CellsAre (bindC (envOfC qual scope L' f cdv).kindOf binds fun _ => none) (cellsFrom (L' + 1) scope.names []) cells → (∀ p ∈ news, p.1 < L') →
      wpAny (model prog w) ((AR dp un fs gd).deeper (envOfC qual scope L' f cdv)) (execs body (envOfC qual scope L' f cdv))
        (fun fl s' => R (.ok (.ret (match fl with | .ret v => v | _ => .none))) s') (fun _ _ => False) { s with heap := h₁, toks := tk }) :
    codeAny (model prog w) (AR dp un fs gd) (.call (.ref f) args) R s := by
  have st : h₀.StaysIn s.heap := F.keep
  have nm : ∀ b o, h₀.get? b = some o → b ∉ sub.map Prod.fst := fun b o e q => by
    obtain ⟨p, hp, rfl⟩ := List.mem_map.mp q
    rw [(N p (hsub p hp)).2.2] at e; cases e
  have stg : h₀.StaysIn (hideAll s.heap (sub.map Prod.fst)) := fun b o e => hideAll_get _ (st b o e) (nm b o e)
  obtain ⟨oL, es, ep, hL, hLd, hLk, hLf⟩ := F.ns
  have nL : L ∉ sub.map Prod.fst := fun q => by
    obtain ⟨p, hp, e⟩ := List.mem_map.mp q
    exact (N p (hsub p hp)).2.1 e
  have hLg := hideAll_get (sub.map Prod.fst) hL nL
  have func : ∀ p ∈ news, p.1 ∈ sub.map Prod.fst → p ∈ sub := fun p hp hq => by
    obtain ⟨q, hqs, e⟩ := List.mem_map.mp hq
    have e1 := (N p hp).1
    have e2 := (N q (hsub q hqs)).1
    rw [e, e1] at e2
    obtain ⟨qa, qo⟩ := q
    obtain ⟨pa, po⟩ := p
    cases e; cases e2
    exact hqs
  refine codeAny_call_function hroom (st _ _ (X _ _ ho)) rfl hco hgen rfl (codeRec_of (X.keeps st) hcd) (hbind _ _ _ _ ?_)
  refine wpAny_newFunctionEnv_cells hk (kindsX hkind _) fun env' he s' x => ?_
  subst he
  refine ⟨(T.nolimit.keeps st).keeps x.toInCall.keep, codeAny_func ?_⟩
  obtain ⟨h₁, tk, rfl, _⟩ := x.done
  have hk₁ := x.toInCall.keep
  obtain ⟨cells, NC, Y⟩ := Cl.news (h₀ := s.heap) (Nat.le_refl _) fun n c hm => ⟨x.cell n c (lookup_of_mem_nodup (cellsFrom_names scope.names 0 (s.heap.objs.size + 1) [] [] rfl ▸ hnd) hm), x.above n c hm⟩
  refine wpAny_mono (h (hideAll s.heap (sub.map Prod.fst)) s.heap.objs.size h₁ tk cells (X.keeps stg) (T.keeps stg) stg (fun a o x => ?_) (fun h' m' news' F' N' => ?_) ⟨x.toInCall.ns, fun b o e => hk₁ b o (of_hideAll _ e), Nat.le_of_eq (hideAll_size _ _)⟩
    (fun p hp => ?_) Y (fun p hp => Heap.lt_size (N p hp).1)) (fun fl s' q => q) (fun _ _ q => q.elim)
  · rcases x with x | x
    · exact .inl (stg _ _ x)
    · by_cases q : a ∈ sub.map Prod.fst
      · exact .inr (func _ x q)
      · exact .inl (hideAll_get _ (N _ x).1 q)
  · have b1 : Fr h₀ L h' m := ⟨⟨oL, es, ep, F'.keep L oL hLg, hLd, hLk, hLf⟩, fun b o e => F'.keep b o (stg b o e), F.above⟩
    have b2 : News h₀ L h' news' := fun p hp => ⟨(N' p hp).1, (fun q => by
      have := (N' p hp).2.2; rw [q, hLg] at this; cases this), by
      cases q : h₀.get? p.1 with
      | none => rfl
      | some o => have := (N' p hp).2.2; rw [stg _ _ q] at this; cases this⟩
    have b3 : ∀ q ∈ news, q.1 ∉ sub.map Prod.fst → h'.get? q.1 = some q.2 := fun q hq hn => F'.keep _ _ (hideAll_get _ (N q hq).1 hn)
    refine ⟨b1, b2, b3, fun hs p hp => ?_⟩
    rcases List.mem_append.mp hp with hp | hp
    · exact b2 p hp
    · by_cases q : p.1 ∈ sub.map Prod.fst
      · exact b2 p (hs p (func p hp q))
      · exact ⟨b3 p hp q, (N p hp).2⟩
  · rcases List.mem_append.mp hp with hp | hp
    · refine ⟨(NC p hp).1, (NC p hp).2.1, ?_⟩
      cases q : (hideAll s.heap (sub.map Prod.fst)).get? p.1 with
      | none => rfl
      | some o => have := of_hideAll _ q; rw [(NC p hp).2.2] at this; cases this
    · have hp := hsub p hp
      exact ⟨hk₁ _ _ (N p hp).1, Nat.ne_of_lt (Heap.lt_size (N p hp).1), hideAll_none _ (List.mem_map_of_mem (by assumption))⟩
end Mine
end

section
open PySem PySem.Spec PySem.W PyProof.Rows PySem.Calls PyProof.Rows.LCg
namespace Mine
/-- a row: a key and the three states of it -/
inductive RowAt (tl : Led) (r : Value) (k : Key) (c0 c1 c2 : Cel) : Prop
  | mk (R Sx : Addr) (v0 v1 v2 : Value) (e : r = .ref R) (m1 : (R, tup [.ref k.2, .ref Sx]) ∈ tl) (m2 : (Sx, lst [v0, v1, v2]) ∈ tl) (a0 : CelAt (Of tl) v0 c0) (a1 : CelAt (Of tl) v1 c1) (a2 : CelAt (Of tl) v2 c2) (b0 : CelOk c0) (b1 : CelOk c1) (b2 : CelOk c2) (hk : KeyAt (Of tl) k.1 k.2)
/-- the goal behind a name, for a while -/
theorem hideGoal {P : Prop} (h : ∀ G : Prop, (P → G) → G) : P := h P id
theorem cel_of {tl : Led} {v : Value} {p1 p2 p3 : Addr} {n1 n2 n3 x1 x2 x3 : Str} {t1 t2 t3 u1 u2 u3 : Tok} (h : v ∈ [Value.none, .ref p1, .ref p2, .ref p3]) (m1 : (p1, tup [.str n1 t1, .str x1 u1]) ∈ tl) (m2 : (p2, tup [.str n2 t2, .str x2 u2]) ∈ tl) (m3 : (p3, tup [.str n3 t3, .str x3 u3]) ∈ tl)
    (o1 : PyData.strOk n1 = true ∧ PyData.strOk x1 = true) (o2 : PyData.strOk n2 = true ∧ PyData.strOk x2 = true) (o3 : PyData.strOk n3 = true ∧ PyData.strOk x3 = true) : ∃ c, CelAt (Of tl) v c ∧ CelOk c := by
  simp only [List.mem_cons, List.not_mem_nil, or_false] at h
  rcases h with rfl | rfl | rfl | rfl
  · exact ⟨none, rfl, trivial⟩
  · exact ⟨some (n1, x1), ⟨_, _, _, rfl, m1⟩, o1⟩
  · exact ⟨some (n2, x2), ⟨_, _, _, rfl, m2⟩, o2⟩
  · exact ⟨some (n3, x3), ⟨_, _, _, rfl, m3⟩, o3⟩
theorem row_of {tl : Led} {R K Sx p1 p2 p3 : Addr} {v0 v1 v2 : Value} {x y : Str} {t u : Tok} {n1 n2 n3 x1 x2 x3 : Str} {t1 t2 t3 u1 u2 u3 : Tok} (mR : (R, tup [.ref K, .ref Sx]) ∈ tl) (mS : (Sx, lst [v0, v1, v2]) ∈ tl) (mK : (K, tup [.str x t, .str y u]) ∈ tl) (ok : PyData.strOk x = true ∧ PyData.strOk y = true)
    (h : ∀ z ∈ [v0, v1, v2], z ∈ [Value.none, .ref p1, .ref p2, .ref p3]) (m1 : (p1, tup [.str n1 t1, .str x1 u1]) ∈ tl) (m2 : (p2, tup [.str n2 t2, .str x2 u2]) ∈ tl) (m3 : (p3, tup [.str n3 t3, .str x3 u3]) ∈ tl)
    (o1 : PyData.strOk n1 = true ∧ PyData.strOk x1 = true) (o2 : PyData.strOk n2 = true ∧ PyData.strOk x2 = true) (o3 : PyData.strOk n3 = true ∧ PyData.strOk x3 = true) : ∃ c0 c1 c2, RowAt tl (.ref R) ([x, y], K) c0 c1 c2 := by
  obtain ⟨c0, a0, b0⟩ := cel_of (h v0 (by simp)) m1 m2 m3 o1 o2 o3
  obtain ⟨c1, a1, b1⟩ := cel_of (h v1 (by simp)) m1 m2 m3 o1 o2 o3
  obtain ⟨c2, a2, b2⟩ := cel_of (h v2 (by simp)) m1 m2 m3 o1 o2 o3
  exact ⟨c0, c1, c2, R, Sx, v0, v1, v2, rfl, mR, mS, a0, a1, a2, b0, b1, b2, ⟨x, y, t, u, rfl, mK, ok.1, ok.2⟩⟩
theorem subNil {b : Led} : ∀ p ∈ ([] : Led), p ∈ b := fun _ h => absurd h List.not_mem_nil
theorem subSkip {a b : Led} {x : Addr × Obj} (h : ∀ p ∈ a, p ∈ b) : ∀ p ∈ a, p ∈ x :: b := fun p hp => .tail _ (h p hp)
theorem subKeep {a b : Led} {x : Addr × Obj} (h : ∀ p ∈ a, p ∈ b) : ∀ p ∈ x :: a, p ∈ x :: b := fun p hp => by
  cases hp with
  | head => exact .head _
  | tail _ hp => exact .tail _ (h p hp)
end Mine
end

section
open PySem PySem.Spec PySem.W PyProof.Rows PySem.Calls PyProof.Rows.LCg
namespace Mine
section
variable {prog : Program} {w : World} {A : Around} {s : Shared} {h₀ : Heap} {L : Addr} {m : Str → Option Value} {env : Env}
/-- a loop over a range by an invariant; an object stands through it -/
theorem turns_range {target : PySem.Expr} {body : List Stmt} {Q : Flow → Shared → Prop} {E : Value → Shared → Prop} {l r : Addr} {lo : Obj} {a b : Int} {t u v : Tok} {n : Nat} {news : Led} (J : Nat → (Str → Option Value) → Led → Prop)
    (hh : A.handled = none) (F : Fr h₀ env.locals s.heap m) (N : News h₀ env.locals s.heap news) (hr : IsRange s.heap r a b 1 t u v) (hsm : Builtin.Range.small a b 1 = true) (hn : Builtin.Range.rangeSize a b 1 = ((n : Nat) : Int)) (hlo : At h₀ news l lo) (h0 : J 0 m news)
    (step : ∀ i t' m₁ news₁ h₁ tk₁ I oI (R : Flow → Shared → Prop), (∀ f s', TurnEnd h₀ env.locals I oI l lo (J (i + 1)) { s with heap := h₁, toks := tk₁ } Q f s' → R f s') → i < n → J i m₁ news₁ → (∀ p ∈ news₁, @Ne Nat p.1 I) → At h₀ news₁ l lo → Fr h₀ env.locals h₁ m₁ → News h₀ env.locals h₁ ((I, oI) :: news₁) →
      wpAny (model prog w) A (assign target env (.int (a + (i : Int)) t')) (fun _ s₃ => wpAny (model prog w) A (execs body env) R E s₃) E { s with heap := h₁, toks := tk₁ })
    (done : ∀ h' tk m' news', Fr h₀ env.locals h' m' → News h₀ env.locals h' news' → J n m' news' → Q .next { s with heap := h', toks := tk }) :
    wpAny (model prog w) A (pyIter (.ref r)) (fun it s₂ => TurnsAt prog w A h₀ env target body Q E it s₂) E s := by
  refine wpAny_pyIter_range hr hsm ?_
  have up : ∀ b' o, s.heap.get? b' = some o → (s.heap.push { cls := .type "range_iterator", data := .fields #[.int a 0, .int (Builtin.Range.rangeSize a b 1) 0, .int 1 0] }).get? b' = some o := fun b o e => Heap.get?_push_of_some _ e
  have hI₀ : h₀.get? s.heap.objs.size = none := next_is_new F
  have hLI : env.locals ≠ s.heap.objs.size := Nat.ne_of_lt F.ns.lt
  refine ⟨s.heap.objs.size, [s.heap.objs.size], [s.heap.objs.size], n, _, _, _, m, news, fun i m' news' => J i m' news' ∧ At h₀ news' l lo, rfl,
    KTurns.ofWalks (range_walks (I := s.heap.objs.size) hh a n) (fun i v s' Q' E' st hQ => goQuiet st rfl (by decide) hQ), ?_, ?_, ?_, ?_, F.keeps up, N.grown up, ⟨h0, hlo⟩, ?_, ?_⟩
  · simpa using hLI
  · intro b hb
    rw [List.mem_singleton.mp hb]; exact hI₀
  · intro p hp hq
    exact Nat.ne_of_lt (Heap.lt_size (N p hp).1) (List.mem_singleton.mp hq)
  · show IsRangeIter _ _ _ _ _; rw [hn]; simpa using Heap.get?_push_size _ rfl
  · intro i v m₁ news₁ h₁ tk₁ own hi hP hJ hwr ho1 ho2 ho3 hst F₁ N₁
    obtain ⟨t', rfl⟩ := hP
    have hmI := ho3 _ (by simp) hI₀ _ hst
    have off : ∀ p ∈ news₁, @Ne Nat p.1 s.heap.objs.size := fun p hp q => hwr p hp (by rw [q]; simp)
    refine wpAny_mono (step i t' m₁ news₁ h₁ tk₁ s.heap.objs.size _ _ (fun _ _ x => x) hi hJ.1 off hJ.2 F₁ (fun p hp => by
      rcases List.mem_cons.mp hp with rfl | hp
      · exact N₁ _ (List.mem_append_left _ hmI)
      · exact N₁ _ (List.mem_append_right _ hp))) (fun _ s₃ h₃ => wpAny_mono h₃ (fun f s₄ h₄ => ?_) fun _ _ e => e) fun _ _ e => e
    have fin : ∀ (oI : Obj), h₁.get? s.heap.objs.size = some oI → (∃ h' tk m' news', s₄ = { s with heap := h', toks := tk } ∧ Fr h₀ env.locals h' m' ∧ News h₀ env.locals h' ((s.heap.objs.size, oI) :: news') ∧ (∀ p ∈ news', @Ne Nat p.1 s.heap.objs.size) ∧ At h₀ news' l lo ∧ J (i + 1) m' news') →
        LoopStepU h₀ env.locals [s.heap.objs.size] own (fun m' news' => J (i + 1) m' news' ∧ At h₀ news' l lo) { s with heap := h₁, toks := tk₁ } .next s₄ := by
      rintro oI hoI ⟨h', tk, m', news', rfl, F', N', off', hl', hJ'⟩
      refine LoopStepU.intro F' (fun p hp => ?_) (fun p hp q => off' p hp (List.mem_singleton.mp q)) ⟨hJ', hl'⟩
      rcases List.mem_append.mp hp with hp | hp
      · refine ⟨?_, (N₁ p (List.mem_append_left _ hp)).2⟩
        have hp1 := ho1 p hp
        have hp2 := ho2 p hp
        obtain ⟨pa, po⟩ := p
        have q := List.mem_singleton.mp hp1
        simp only at q hp2
        subst q
        rw [hoI] at hp2
        cases hp2
        exact (N' _ (.head _)).1
      · exact N' p (.tail _ hp)
    cases f with
    | ret v => exact LoopStepV.ret h₄
    | brk => exact LoopStepV.brk h₄
    | cont => exact LoopStepV.cont (fin _ hst h₄)
    | next => exact LoopStepV.next (fin _ hst h₄)
  · intro h' tk m' news' F' N' _ hJ
    exact done h' tk m' news' F' N' hJ.1
end
end Mine
namespace Mine
noncomputable abbrev key0 : List Str := ["", "a"]
noncomputable abbrev key1 : List Str := ["", "b"]
noncomputable abbrev key2 : List Str := ["u:1", "a"]
theorem keys3 : K3 key0 key1 key2 := by
  refine ⟨by simp, by simp, by simp, ?_, ?_, ?_, ?_, ?_, ?_, ?_, ?_, ?_⟩ <;> decide +kernel
/-- what stands when the rows are built, without names -/
inductive RowsStand (g h : Heap) (L : Addr) (path : Value) (S : Addr) : Prop
  | mk (m' : Str → Option Value) (fo rw : Addr) (oa so : Obj) (tl : Led) (r0 r1 r2 : Value) (K0 K1 K2 : Addr) (c00 c01 c02 c10 c11 c12 c20 c21 c22 : Cel) (cw : Nat) (v0 : Option Value) (ho : SrcO so) (F : Fr g L h m') (n1 : m' "path" = some path) (n2 : m' "rows" = some (.ref rw)) (n3 : m' "forms" = some (.ref fo))
    (N : News g L h ((L + 1 + 1 + 1, oa) :: (fo, W.listOf #[] 0) :: tl)) (da : oa.data = .cell v0) (mS : (S, so) ∈ tl) (mrw : (rw, W.listOf #[r0, r1, r2] cw) ∈ tl) (R0 : RowAt tl r0 (key0, K0) c00 c01 c02) (R1 : RowAt tl r1 (key1, K1) c10 c11 c12) (R2 : RowAt tl r2 (key2, K2) c20 c21 c22)
    (cf : @LT.lt Nat _ (L + 1 + 1 + 1) fo) (ltf : AllLt fo tl) (offc : ∀ p ∈ tl, p.1 ≠ L + 1 + 1 + 1)
/-- an item of keys: a tuple of the key and two names -/
inductive KeyItem (tl : Led) (v : Value) (k : Key) : Prop
  | mk (q : Addr) (nm ot : Str) (t1 t2 : Tok) (x y : Str) (t u : Tok) (e : v = .ref q) (ek : k.1 = [x, y]) (mq : (q, tup [.ref k.2, .str nm t1, .str ot t2]) ∈ tl) (mK : (k.2, tup [.str x t, .str y u]) ∈ tl) (ok : PyData.strOk x = true ∧ PyData.strOk y = true) (o1 : PyData.strOk nm = true) (o2 : PyData.strOk ot = true)
theorem keyItems_at {tl : Led} {r0 r1 r2 : Value} {k0 k1 k2 : Key} (R0 : KeyItem tl r0 k0) (R1 : KeyItem tl r1 k1) (R2 : KeyItem tl r2 k2) {j : Nat} {v : Value} (h : (#[r0, r1, r2] : Array Value)[j]? = some v) :
    ∃ k, KeyItem tl v k ∧ ([k0, k1, k2] : List Key)[j]? = some k := by
  match j with
  | 0 => cases h; exact ⟨_, R0, rfl⟩
  | 1 => cases h; exact ⟨_, R1, rfl⟩
  | 2 => cases h; exact ⟨_, R2, rfl⟩
  | n + 3 => simp at h
inductive RowsL (tl : Led) : List Key → List Value → Prop
  | nil : RowsL tl [] []
  | cons {k : Key} {r : Value} {c0 c1 c2 : Cel} {ks : List Key} {rs : List Value} : RowAt tl r k c0 c1 c2 → RowsL tl ks rs → RowsL tl (k :: ks) (r :: rs)
theorem RowAt.up {tl tl' : Led} (hs : ∀ p ∈ tl, p ∈ tl') {r : Value} {k : Key} {c0 c1 c2 : Cel} : RowAt tl r k c0 c1 c2 → RowAt tl' r k c0 c1 c2 :=
  fun ⟨R, Sx, v0, v1, v2, e, m1, m2, a0, a1, a2, b0, b1, b2, hk⟩ => ⟨R, Sx, v0, v1, v2, e, hs _ m1, hs _ m2, a0.up fun _ _ h => hs _ h, a1.up fun _ _ h => hs _ h, a2.up fun _ _ h => hs _ h, b0, b1, b2, hk.up fun _ _ h => hs _ h⟩
theorem RowsL.up {tl tl' : Led} (hs : ∀ p ∈ tl, p ∈ tl') {ks : List Key} {rs : List Value} (h : RowsL tl ks rs) : RowsL tl' ks rs := by
  induction h with
  | nil => exact .nil
  | cons h _ ih => exact .cons (h.up hs) ih
theorem RowsL.snoc {tl : Led} {ks : List Key} {rs : List Value} (h : RowsL tl ks rs) {k : Key} {r : Value} (hr : ∃ c0 c1 c2, RowAt tl r k c0 c1 c2) : RowsL tl (ks ++ [k]) (rs ++ [r]) := by
  induction h with
  | nil => obtain ⟨_, _, _, hr⟩ := hr; exact .cons hr .nil
  | cons h _ ih => exact .cons h ih
theorem rowsThree {tl : Led} {k0 k1 k2 : Key} {rs : List Value} (h : RowsL tl [k0, k1, k2] rs) : ∃ r0 r1 r2 c00 c01 c02 c10 c11 c12 c20 c21 c22, rs = [r0, r1, r2] ∧ RowAt tl r0 k0 c00 c01 c02 ∧ RowAt tl r1 k1 c10 c11 c12 ∧ RowAt tl r2 k2 c20 c21 c22 := by
  cases h with
  | cons a h => cases h with
    | cons b h => cases h with
      | cons c h => cases h; exact ⟨_, _, _, _, _, _, _, _, _, _, _, _, rfl, a, b, c⟩
theorem row_made {tl : Led} {R Sx p1 p2 p3 : Addr} {k : Key} {v0 v1 v2 : Value} {x y : Str} {t u : Tok} {n1 n2 n3 x1 x2 x3 : Str} {t1 t2 t3 u1 u2 u3 : Tok} (ek : k.1 = [x, y]) (mR : (R, tup [.ref k.2, .ref Sx]) ∈ tl) (mS : (Sx, lst [v0, v1, v2]) ∈ tl) (mK : (k.2, tup [.str x t, .str y u]) ∈ tl) (ok : PyData.strOk x = true ∧ PyData.strOk y = true)
    (h : ∀ z ∈ [v0, v1, v2], z ∈ [Value.none, .ref p1, .ref p2, .ref p3]) (m1 : (p1, tup [.str n1 t1, .str x1 u1]) ∈ tl) (m2 : (p2, tup [.str n2 t2, .str x2 u2]) ∈ tl) (m3 : (p3, tup [.str n3 t3, .str x3 u3]) ∈ tl)
    (o1 : PyData.strOk n1 = true ∧ PyData.strOk x1 = true) (o2 : PyData.strOk n2 = true ∧ PyData.strOk x2 = true) (o3 : PyData.strOk n3 = true ∧ PyData.strOk x3 = true) : ∃ c0 c1 c2, RowAt tl (.ref R) k c0 c1 c2 := by
  obtain ⟨ks, K⟩ := k
  have e : ks = [x, y] := ek
  subst e
  exact row_of mR mS mK ok h m1 m2 m3 o1 o2 o3
theorem allGt_cons {d : Addr} {x : Addr × Obj} {l : Led} (h : @LT.lt Nat _ d x.1) (r : ∀ p ∈ l, @LT.lt Nat _ d p.1) : ∀ p ∈ x :: l, @LT.lt Nat _ d p.1 := fun p hp => by
  rcases List.mem_cons.mp hp with rfl | hp
  · exact h
  · exact r p hp
/-- what stands when the list of the keys is built, without names -/
inductive KeysStand (g h : Heap) (L : Addr) (path : Value) (S : Addr) (oa os oc so : Obj) : Prop
  | mk (m' : Str → Option Value) (rw kL : Addr) (c : Nat) (tl : Led) (q0 q1 q2 K0 K1 K2 : Addr) (F : Fr g L h m') (n1 : m' "path" = some path) (n2 : m' "rows" = some (.ref rw)) (n3 : m' "keys" = some (.ref kL))
    (N : News g L h ((rw, W.listOf #[] 0) :: (L + 1 + 1 + 1, oa) :: (L + 1 + 1, os) :: (L + 1, oc) :: (S, so) :: tl)) (mk : (kL, W.listOf #[.ref q0, .ref q1, .ref q2] c) ∈ tl)
    (k0 : KeyItem tl (.ref q0) (key0, K0)) (k1 : KeyItem tl (.ref q1) (key1, K1)) (k2 : KeyItem tl (.ref q2) (key2, K2)) (lr : @LT.lt Nat _ (L + 1 + 1 + 1) rw) (gt : ∀ p ∈ tl, @LT.lt Nat _ (L + 1 + 1 + 1) p.1) (ne : ∀ p ∈ tl, p.1 ≠ rw)
/-- between the turns of the rows -/
inductive RowsJ (g : Heap) (L S rw : Addr) (path : Value) (tl0 : Led) (ks : List Key) (i : Nat) (m' : Str → Option Value) (nl : Led) : Prop
  | mk (n1 : m' "path" = some path) (n2 : m' "rows" = some (.ref rw)) (rs : List Value) (c : Nat) (oa os oc so : Obj) (tl : Led) (e : nl = (rw, W.listOf rs.toArray c) :: (L + 1 + 1 + 1, oa) :: (L + 1 + 1, os) :: (L + 1, oc) :: (S, so) :: tl)
    (va vs : Option Value) (da : oa.data = .cell va) (ds : os.data = .cell vs) (dc : oc.data = .cell (some (.ref S))) (ho : SrcO so) (s1 : ∀ p ∈ tl0, p ∈ tl) (s2 : ∀ p ∈ tl, p.1 ≠ rw) (s3 : ∀ p ∈ tl, @LT.lt Nat _ (L + 1 + 1 + 1) p.1) (s6 : rs.length = i) (s7 : RowsL tl (ks.take i) rs)
theorem keysStand {g h : Heap} {L S rw kL q0 q1 q2 K0 K1 K2 : Addr} {oa os oc so : Obj} {path : Value} {m' : Str → Option Value} {c : Nat} {t1 t2 t3 t4 t5 t6 t7 t8 t9 t10 t11 t12 : Tok} (F : Fr g L h m') (n : m' "path" = some path ∧ m' "rows" = some (.ref rw) ∧ m' "keys" = some (.ref kL))
    (N : News g L h [(rw, W.listOf #[] 0), (kL, W.listOf #[.ref q0, .ref q1, .ref q2] c), (q2, tup [.ref K2, .str "p:a" t11, .str "q:a" t12]), (K2, tup [.str "u:1" t9, .str "a" t10]), (q1, tup [.ref K1, .str "b" t7, .str "b" t8]), (K1, tup [.str "" t5, .str "b" t6]), (q0, tup [.ref K0, .str "a" t3, .str "a" t4]), (K0, tup [.str "" t1, .str "a" t2]), (L + 1 + 1 + 1, oa), (L + 1 + 1, os), (L + 1, oc), (S, so)])
    (l0 : @LT.lt Nat _ (L + 1 + 1 + 1) K0 ∧ @LT.lt Nat _ (L + 1 + 1) K0 ∧ @LT.lt Nat _ (L + 1) K0 ∧ @LT.lt Nat _ S K0)
    (l1 : @LT.lt Nat _ K0 q0 ∧ @LT.lt Nat _ (L + 1 + 1 + 1) q0 ∧ @LT.lt Nat _ (L + 1 + 1) q0 ∧ @LT.lt Nat _ (L + 1) q0 ∧ @LT.lt Nat _ S q0)
    (l2 : @LT.lt Nat _ q0 K1 ∧ @LT.lt Nat _ K0 K1 ∧ @LT.lt Nat _ (L + 1 + 1 + 1) K1 ∧ @LT.lt Nat _ (L + 1 + 1) K1 ∧ @LT.lt Nat _ (L + 1) K1 ∧ @LT.lt Nat _ S K1)
    (l3 : @LT.lt Nat _ K1 q1 ∧ @LT.lt Nat _ q0 q1 ∧ @LT.lt Nat _ K0 q1 ∧ @LT.lt Nat _ (L + 1 + 1 + 1) q1 ∧ @LT.lt Nat _ (L + 1 + 1) q1 ∧ @LT.lt Nat _ (L + 1) q1 ∧ @LT.lt Nat _ S q1)
    (l4 : @LT.lt Nat _ q1 K2 ∧ @LT.lt Nat _ K1 K2 ∧ @LT.lt Nat _ q0 K2 ∧ @LT.lt Nat _ K0 K2 ∧ @LT.lt Nat _ (L + 1 + 1 + 1) K2 ∧ @LT.lt Nat _ (L + 1 + 1) K2 ∧ @LT.lt Nat _ (L + 1) K2 ∧ @LT.lt Nat _ S K2)
    (l5 : @LT.lt Nat _ K2 q2 ∧ @LT.lt Nat _ q1 q2 ∧ @LT.lt Nat _ K1 q2 ∧ @LT.lt Nat _ q0 q2 ∧ @LT.lt Nat _ K0 q2 ∧ @LT.lt Nat _ (L + 1 + 1 + 1) q2 ∧ @LT.lt Nat _ (L + 1 + 1) q2 ∧ @LT.lt Nat _ (L + 1) q2 ∧ @LT.lt Nat _ S q2)
    (l6 : @LT.lt Nat _ q2 kL ∧ @LT.lt Nat _ K2 kL ∧ @LT.lt Nat _ q1 kL ∧ @LT.lt Nat _ K1 kL ∧ @LT.lt Nat _ q0 kL ∧ @LT.lt Nat _ K0 kL ∧ @LT.lt Nat _ (L + 1 + 1 + 1) kL ∧ @LT.lt Nat _ (L + 1 + 1) kL ∧ @LT.lt Nat _ (L + 1) kL ∧ @LT.lt Nat _ S kL)
    (l7 : @LT.lt Nat _ kL rw ∧ @LT.lt Nat _ q2 rw ∧ @LT.lt Nat _ K2 rw ∧ @LT.lt Nat _ q1 rw ∧ @LT.lt Nat _ K1 rw ∧ @LT.lt Nat _ q0 rw ∧ @LT.lt Nat _ K0 rw ∧ @LT.lt Nat _ (L + 1 + 1 + 1) rw ∧ @LT.lt Nat _ (L + 1 + 1) rw ∧ @LT.lt Nat _ (L + 1) rw ∧ @LT.lt Nat _ S rw) :
    KeysStand g h L path S oa os oc so := by
  refine ⟨m', rw, kL, c, [(kL, W.listOf #[.ref q0, .ref q1, .ref q2] c), (q2, tup [.ref K2, .str "p:a" t11, .str "q:a" t12]), (K2, tup [.str "u:1" t9, .str "a" t10]), (q1, tup [.ref K1, .str "b" t7, .str "b" t8]), (K1, tup [.str "" t5, .str "b" t6]), (q0, tup [.ref K0, .str "a" t3, .str "a" t4]), (K0, tup [.str "" t1, .str "a" t2])], q0, q1, q2, K0, K1, K2, F, n.1, n.2.1, n.2.2, ?_, .head _,
    ⟨_, _, _, _, _, _, _, _, _, rfl, rfl, .tail _ (.tail _ (.tail _ (.tail _ (.tail _ (.head _))))), .tail _ (.tail _ (.tail _ (.tail _ (.tail _ (.tail _ (.head _)))))), ⟨by decide +kernel, by decide +kernel⟩, by decide +kernel, by decide +kernel⟩,
    ⟨_, _, _, _, _, _, _, _, _, rfl, rfl, .tail _ (.tail _ (.tail _ (.head _))), .tail _ (.tail _ (.tail _ (.tail _ (.head _)))), ⟨by decide +kernel, by decide +kernel⟩, by decide +kernel, by decide +kernel⟩,
    ⟨_, _, _, _, _, _, _, _, _, rfl, rfl, .tail _ (.head _), .tail _ (.tail _ (.head _)), ⟨by decide +kernel, by decide +kernel⟩, by decide +kernel, by decide +kernel⟩,
    l7.2.2.2.2.2.2.2.1, ?_, ?_⟩
  · intro p hp
    refine N p ?_
    rcases List.mem_cons.mp hp with rfl | hp
    · exact .head _
    refine .tail _ ?_
    rcases List.mem_append.mp (show p ∈ [(L + 1 + 1 + 1, oa), (L + 1 + 1, os), (L + 1, oc), (S, so)] ++ [(kL, W.listOf #[.ref q0, .ref q1, .ref q2] c), (q2, tup [.ref K2, .str "p:a" t11, .str "q:a" t12]), (K2, tup [.str "u:1" t9, .str "a" t10]), (q1, tup [.ref K1, .str "b" t7, .str "b" t8]), (K1, tup [.str "" t5, .str "b" t6]), (q0, tup [.ref K0, .str "a" t3, .str "a" t4]), (K0, tup [.str "" t1, .str "a" t2])] from hp) with hp | hp
    · exact List.mem_append_right [(kL, W.listOf #[.ref q0, .ref q1, .ref q2] c), (q2, tup [.ref K2, .str "p:a" t11, .str "q:a" t12]), (K2, tup [.str "u:1" t9, .str "a" t10]), (q1, tup [.ref K1, .str "b" t7, .str "b" t8]), (K1, tup [.str "" t5, .str "b" t6]), (q0, tup [.ref K0, .str "a" t3, .str "a" t4]), (K0, tup [.str "" t1, .str "a" t2])] hp
    · exact List.mem_append_left [(L + 1 + 1 + 1, oa), (L + 1 + 1, os), (L + 1, oc), (S, so)] hp
  · exact allGt_cons l6.2.2.2.2.2.2.1 (allGt_cons l5.2.2.2.2.2.1 (allGt_cons l4.2.2.2.2.1 (allGt_cons l3.2.2.2.1 (allGt_cons l2.2.2.1 (allGt_cons l1.2.1 (allGt_cons l0.1 fun _ h => absurd h List.not_mem_nil))))))
  · have z : AllLt rw [(kL, W.listOf #[.ref q0, .ref q1, .ref q2] c), (q2, tup [.ref K2, .str "p:a" t11, .str "q:a" t12]), (K2, tup [.str "u:1" t9, .str "a" t10]), (q1, tup [.ref K1, .str "b" t7, .str "b" t8]), (K1, tup [.str "" t5, .str "b" t6]), (q0, tup [.ref K0, .str "a" t3, .str "a" t4]), (K0, tup [.str "" t1, .str "a" t2])] :=
      ⟨l7.1, l7.2.1, l7.2.2.1, l7.2.2.2.1, l7.2.2.2.2.1, l7.2.2.2.2.2.1, l7.2.2.2.2.2.2.1, trivial⟩
    exact fun p hp => Nat.ne_of_lt (allLt_all _ z p hp)
theorem allNe_cons {d : Addr} {x : Addr × Obj} {l : Led} (h : @LT.lt Nat _ d x.1) (r : ∀ p ∈ l, @Ne Nat p.1 d) : ∀ p ∈ x :: l, @Ne Nat p.1 d := fun p hp => by
  rcases List.mem_cons.mp hp with rfl | hp
  · exact Ne.symm (Nat.ne_of_lt h)
  · exact r p hp
/-- the end of a turn of the rows -/
theorem rowTurn {g h : Heap} {L I rw S ca cs cc Rt D T p1 p2 p3 : Addr} {oI oT oa os oc so : Obj} {tl : Led} {ks : List Key} {k : Key} {rs : List Value} {v0 v1 v2 : Value} {c : Nat} {x y n1 n2 n3 x1 x2 x3 : Str} {t u t1 t2 t3 u1 u2 u3 : Tok}
    (N : News g L h ((Rt, tup [.ref k.2, .ref D]) :: (D, lst [v0, v1, v2]) :: (T, oT) :: (p3, tup [.str n3 t3, .str x3 u3]) :: (p2, tup [.str n2 t2, .str x2 u2]) :: (p1, tup [.str n1 t1, .str x1 u1]) :: (I, oI) :: (rw, W.listOf (rs.toArray.push (Value.ref Rt)) c) :: (ca, oa) :: (cs, os) :: (cc, oc) :: (S, so) :: tl))
    (l1 : @LT.lt Nat _ I p1 ∧ @LT.lt Nat _ rw p1 ∧ @LT.lt Nat _ ca p1 ∧ @LT.lt Nat _ cs p1 ∧ @LT.lt Nat _ cc p1 ∧ @LT.lt Nat _ S p1 ∧ AllLt p1 tl)
    (l2 : @LT.lt Nat _ p1 p2 ∧ @LT.lt Nat _ I p2 ∧ @LT.lt Nat _ rw p2 ∧ @LT.lt Nat _ ca p2 ∧ @LT.lt Nat _ cs p2 ∧ @LT.lt Nat _ cc p2 ∧ @LT.lt Nat _ S p2 ∧ AllLt p2 tl)
    (l3 : @LT.lt Nat _ p2 p3 ∧ @LT.lt Nat _ p1 p3 ∧ @LT.lt Nat _ I p3 ∧ @LT.lt Nat _ rw p3 ∧ @LT.lt Nat _ ca p3 ∧ @LT.lt Nat _ cs p3 ∧ @LT.lt Nat _ cc p3 ∧ @LT.lt Nat _ S p3 ∧ AllLt p3 tl)
    (l4 : @LT.lt Nat _ T D ∧ @LT.lt Nat _ p3 D ∧ @LT.lt Nat _ p2 D ∧ @LT.lt Nat _ p1 D ∧ @LT.lt Nat _ I D ∧ @LT.lt Nat _ rw D ∧ @LT.lt Nat _ ca D ∧ @LT.lt Nat _ cs D ∧ @LT.lt Nat _ cc D ∧ @LT.lt Nat _ S D ∧ AllLt D tl)
    (l5 : @LT.lt Nat _ D Rt ∧ @LT.lt Nat _ T Rt ∧ @LT.lt Nat _ p3 Rt ∧ @LT.lt Nat _ p2 Rt ∧ @LT.lt Nat _ p1 Rt ∧ @LT.lt Nat _ I Rt ∧ @LT.lt Nat _ rw Rt ∧ @LT.lt Nat _ ca Rt ∧ @LT.lt Nat _ cs Rt ∧ @LT.lt Nat _ cc Rt ∧ @LT.lt Nat _ S Rt ∧ AllLt Rt tl)
    (hr : ∀ p ∈ tl, p.1 ≠ rw) (hc : ∀ p ∈ tl, @LT.lt Nat _ ca p.1) (hI : ∀ p ∈ tl, @Ne Nat p.1 I) (R : RowsL tl ks rs) (ek : k.1 = [x, y]) (mK : (k.2, tup [.str x t, .str y u]) ∈ tl) (ok : PyData.strOk x = true ∧ PyData.strOk y = true)
    (hz : ∀ z ∈ [v0, v1, v2], z ∈ [Value.none, .ref p1, .ref p2, .ref p3]) (o1 : PyData.strOk n1 = true ∧ PyData.strOk x1 = true) (o2 : PyData.strOk n2 = true ∧ PyData.strOk x2 = true) (o3 : PyData.strOk n3 = true ∧ PyData.strOk x3 = true) :
    ∃ tlx, News g L h ((I, oI) :: (rw, W.listOf (rs ++ [Value.ref Rt]).toArray c) :: (ca, oa) :: (cs, os) :: (cc, oc) :: (S, so) :: tlx) ∧ (∀ p ∈ tl, p ∈ tlx) ∧ (∀ p ∈ tlx, p.1 ≠ rw) ∧ (∀ p ∈ tlx, @LT.lt Nat _ ca p.1) ∧ (∀ p ∈ tlx, @Ne Nat p.1 I) ∧ RowsL tlx (ks ++ [k]) (rs ++ [Value.ref Rt]) := by
  have e : W.listOf (rs.toArray.push (Value.ref Rt)) c = W.listOf (rs ++ [Value.ref Rt]).toArray c := by rw [List.push_toArray]
  rw [e] at N
  have up : ∀ p ∈ tl, p ∈ (Rt, tup [.ref k.2, .ref D]) :: (D, lst [v0, v1, v2]) :: (p3, tup [.str n3 t3, .str x3 u3]) :: (p2, tup [.str n2 t2, .str x2 u2]) :: (p1, tup [.str n1 t1, .str x1 u1]) :: tl := fun p hp => .tail _ (.tail _ (.tail _ (.tail _ (.tail _ hp))))
  refine ⟨_, ?_, up, allNe_cons l5.2.2.2.2.2.2.1 (allNe_cons l4.2.2.2.2.2.1 (allNe_cons l3.2.2.2.1 (allNe_cons l2.2.2.1 (allNe_cons l1.2.1 hr)))), allGt_cons l5.2.2.2.2.2.2.2.1 (allGt_cons l4.2.2.2.2.2.2.1 (allGt_cons l3.2.2.2.2.1 (allGt_cons l2.2.2.2.1 (allGt_cons l1.2.2.1 hc)))),
    allNe_cons l5.2.2.2.2.2.1 (allNe_cons l4.2.2.2.2.1 (allNe_cons l3.2.2.1 (allNe_cons l2.2.1 (allNe_cons l1.1 hI)))),
    (R.up up).snoc (row_made ek (.head _) (.tail _ (.head _)) (up _ mK) ok hz (.tail _ (.tail _ (.tail _ (.tail _ (.head _))))) (.tail _ (.tail _ (.tail _ (.head _)))) (.tail _ (.tail _ (.head _))) o1 o2 o3)⟩
  intro p hp
  refine N p ?_
  rcases List.mem_append.mp (show p ∈ [(I, oI), (rw, W.listOf (rs ++ [Value.ref Rt]).toArray c), (ca, oa), (cs, os), (cc, oc), (S, so)] ++ ([(Rt, tup [.ref k.2, .ref D]), (D, lst [v0, v1, v2]), (p3, tup [.str n3 t3, .str x3 u3]), (p2, tup [.str n2 t2, .str x2 u2]), (p1, tup [.str n1 t1, .str x1 u1])] ++ tl) from hp) with hp | hp
  · exact List.mem_append_right [(Rt, tup [.ref k.2, .ref D]), (D, lst [v0, v1, v2]), (T, oT), (p3, tup [.str n3 t3, .str x3 u3]), (p2, tup [.str n2 t2, .str x2 u2]), (p1, tup [.str n1 t1, .str x1 u1])] (List.mem_append_left tl hp)
  · rcases List.mem_append.mp hp with hp | hp
    · refine List.mem_append_left ((I, oI) :: (rw, W.listOf (rs ++ [Value.ref Rt]).toArray c) :: (ca, oa) :: (cs, os) :: (cc, oc) :: (S, so) :: tl) (as := [(Rt, tup [.ref k.2, .ref D]), (D, lst [v0, v1, v2]), (T, oT), (p3, tup [.str n3 t3, .str x3 u3]), (p2, tup [.str n2 t2, .str x2 u2]), (p1, tup [.str n1 t1, .str x1 u1])]) ?_
      exact (subKeep (subKeep (subSkip (subKeep (subKeep (subKeep subNil)))))) p hp
    · exact .tail _ (.tail _ (.tail _ (.tail _ (.tail _ (.tail _ (.tail _ (.tail _ (.tail _ (.tail _ (.tail _ (.tail _ hp)))))))))))
theorem rowsStand {g h : Heap} {L S fo rw K0 K1 K2 : Addr} {oa os oc so : Obj} {tl : Led} {rs : List Value} {path : Value} {m' : Str → Option Value} {cw : Nat} {v0 : Option Value} (ho : SrcO so) (hd : oa.data = .cell v0) (F : Fr g L h m') (n : m' "path" = some path ∧ m' "rows" = some (.ref rw) ∧ m' "forms" = some (.ref fo))
    (N : News g L h ((fo, W.listOf #[] 0) :: (rw, W.listOf rs.toArray cw) :: (L + 1 + 1 + 1, oa) :: (L + 1 + 1, os) :: (L + 1, oc) :: (S, so) :: tl))
    (l : @LT.lt Nat _ rw fo ∧ @LT.lt Nat _ (L + 1 + 1 + 1) fo ∧ @LT.lt Nat _ (L + 1 + 1) fo ∧ @LT.lt Nat _ (L + 1) fo ∧ @LT.lt Nat _ S fo ∧ AllLt fo tl) (lr : @LT.lt Nat _ (L + 1 + 1 + 1) rw) (hS : @LT.lt Nat _ S L) (hc : ∀ p ∈ tl, @LT.lt Nat _ (L + 1 + 1 + 1) p.1)
    (R : RowsL tl [(key0, K0), (key1, K1), (key2, K2)] rs) : RowsStand g h L path S := by
  obtain ⟨r0, r1, r2, c00, c01, c02, c10, c11, c12, c20, c21, c22, rfl, R0, R1, R2⟩ := rowsThree R
  have up : ∀ p ∈ tl, p ∈ (rw, W.listOf #[r0, r1, r2] cw) :: (L + 1 + 1, os) :: (L + 1, oc) :: (S, so) :: tl := fun p hp => .tail _ (.tail _ (.tail _ (.tail _ hp)))
  refine ⟨m', fo, rw, oa, so, _, r0, r1, r2, K0, K1, K2, c00, c01, c02, c10, c11, c12, c20, c21, c22, cw, v0, ho, F, n.1, n.2.1, n.2.2, fun p hp => N p ?_, hd, .tail _ (.tail _ (.tail _ (.head _))), .head _, R0.up up, R1.up up, R2.up up, l.2.1, ⟨l.1, l.2.2⟩, ?_⟩
  · rcases List.mem_cons.mp hp with rfl | hp
    · exact .tail _ (.tail _ (.head _))
    rcases List.mem_cons.mp hp with rfl | hp
    · exact .head _
    rcases List.mem_cons.mp hp with rfl | hp
    · exact .tail _ (.head _)
    · exact .tail _ (.tail _ (.tail _ hp))
  · refine allNe_cons lr (List.forall_mem_cons.mpr ⟨Nat.ne_of_lt (Nat.lt_succ_self _), List.forall_mem_cons.mpr ⟨Nat.ne_of_lt (Nat.lt_succ_of_lt (Nat.lt_succ_self _)), List.forall_mem_cons.mpr ⟨Nat.ne_of_lt (Nat.lt_succ_of_lt (Nat.lt_succ_of_lt (Nat.lt_succ_of_lt hS))), fun p hp => Ne.symm (Nat.ne_of_lt (hc p hp))⟩⟩⟩)
end Mine
end

section
open PySem PySem.Spec PySem.W PyProof.Rows PySem.Calls PyProof.Rows.LCg
namespace Mine
inductive FormsOk (A : Addr → Obj → Prop) : List (List Tri) → List Value → Prop
  | nil : FormsOk A [] []
  | cons {Fm Aa : Addr} {u1 u2 u3 u4 : Value} {ys : List Value} {ts : List Tri} {tss : List (List Tri)} {vs : List Value} : A Fm (tup [u1, u2, u3, .ref Aa, u4]) → A Aa (tup ys) → Trips A ts ys → FormsOk A tss vs → FormsOk A (ts :: tss) (.ref Fm :: vs)
theorem FormsOk.up {A B : Addr → Obj → Prop} (hs : ∀ a o, A a o → B a o) {tss : List (List Tri)} {vs : List Value} (h : FormsOk A tss vs) : FormsOk B tss vs := by
  induction h with
  | nil => exact .nil
  | cons h1 h2 h3 _ ih => exact .cons (hs _ _ h1) (hs _ _ h2) (h3.up hs) ih
theorem FormsOk.append {A : Addr → Obj → Prop} {tss tss' : List (List Tri)} {vs vs' : List Value} (h : FormsOk A tss vs) (h' : FormsOk A tss' vs') : FormsOk A (tss ++ tss') (vs ++ vs') := by
  induction h with
  | nil => exact h'
  | cons h1 h2 h3 _ ih => exact .cons h1 h2 h3 ih
theorem Trips.append {A : Addr → Obj → Prop} {ts ts' : List Tri} {vs vs' : List Value} (h : Trips A ts vs) (h' : Trips A ts' vs') : Trips A (ts ++ ts') (vs ++ vs') := by
  induction h with
  | nil => exact h'
  | cons h1 h2 h3 h4 _ ih => exact .cons h1 h2 h3 h4 ih
/-- between the turns of the forms -/
inductive FormsJ (L rw fo : Addr) (path : Value) (tl : Led) (f : Nat → List Tri) (i : Nat) (m' : Str → Option Value) (nl : Led) : Prop
  | mk (n1 : m' "path" = some path) (n2 : m' "rows" = some (.ref rw)) (n3 : m' "forms" = some (.ref fo)) (fl : List Value) (oa : Obj) (c : Nat) (tl' : Led) (e : nl = (L + 1 + 1 + 1, oa) :: (fo, W.listOf fl.toArray c) :: tl') (va : Option Value) (da : oa.data = .cell va)
    (s1 : ∀ p ∈ tl, p ∈ tl') (s2 : ∀ p ∈ tl', p.1 ≠ fo) (s3 : ∀ p ∈ tl', p.1 ≠ L + 1 + 1 + 1) (s4 : fl.length ≤ i) (s5 : FormsOk (Of tl') ((List.range i).map f) fl)
/-- between the turns of what is due -/
inductive DueJ (g : Heap) (rw fo du cl : Addr) (path : Value) (pd : PyData) (tl : Led) (r3 : List Rec) (i : Nat) (m' : Str → Option Value) (nl : Led) : Prop
  | mk (n1 : m' "path" = some path) (n2 : m' "rows" = some (.ref rw)) (n3 : m' "forms" = some (.ref fo)) (n4 : m' "due" = some (.ref du)) (n5 : m' "clashes" = some (.ref cl)) (ysd ysc : List Value) (cd cc : Nat) (tl3 : Led) (e : nl = (cl, W.listOf ysc.toArray cc) :: (du, W.listOf ysd.toArray cd) :: tl3)
    (q1 : ∀ p ∈ tl, p ∈ tl3) (q2 : ∀ p ∈ tl3, p.1 ≠ du) (q3 : ∀ p ∈ tl3, p.1 ≠ cl) (q4 : ysd.length ≤ i) (q5 : ysc.length ≤ i) (q6 : DLs (At g tl3) ysd ((r3.take i).flatMap foundD)) (q7 : DLs (At g tl3) ysc ((r3.take i).flatMap (clashD pd)))
/-- the three forms, taken apart -/
inductive Forms3 (A : Addr → Obj → Prop) (f : Nat → List Tri) (fl : List Value) : Prop
  | mk (Fa Fb Fc Aa Ab Ac : Addr) (ya yb yc : List Value) (ua1 ua2 ua3 ua4 ub1 ub2 ub3 ub4 uc1 uc2 uc3 uc4 : Value) (e : fl = [.ref Fa, .ref Fb, .ref Fc]) (ma : A Fa (tup [ua1, ua2, ua3, .ref Aa, ua4])) (mAa : A Aa (tup ya)) (ta : Trips A (f 0) ya)
    (mb : A Fb (tup [ub1, ub2, ub3, .ref Ab, ub4])) (mAb : A Ab (tup yb)) (tb : Trips A (f 1) yb) (mc : A Fc (tup [uc1, uc2, uc3, .ref Ac, uc4])) (mAc : A Ac (tup yc)) (tc : Trips A (f 2) yc)
noncomputable def colOf (c0 c1 c2 : Cel) (i : Nat) : Cel := [c0, c1, c2].getD i none
theorem RowAt.at {tl : Led} {r : Value} {k : Key} {c0 c1 c2 : Cel} (h : RowAt tl r k c0 c1 c2) {i : Nat} (hi : i < 3) : ∃ R Sx ws x, r = .ref R ∧ (R, tup [.ref k.2, .ref Sx]) ∈ tl ∧ (Sx, lst ws) ∈ tl ∧ ws[i]? = some x ∧ CelAt (Of tl) x (colOf c0 c1 c2 i) ∧ CelOk (colOf c0 c1 c2 i) ∧ KeyAt (Of tl) k.1 k.2 := by
  obtain ⟨R, Sx, v0, v1, v2, e, m1, m2, a0, a1, a2, b0, b1, b2, hk⟩ := h
  match i, hi with
  | 0, _ => exact ⟨R, Sx, _, v0, e, m1, m2, rfl, a0, b0, hk⟩
  | 1, _ => exact ⟨R, Sx, _, v1, e, m1, m2, rfl, a1, b1, hk⟩
  | 2, _ => exact ⟨R, Sx, _, v2, e, m1, m2, rfl, a2, b2, hk⟩
theorem subAt {prog : Program} {w : World} {A : Around} {E : Value → Shared → Prop} {s : Shared} {g : Heap} {L : Addr} {nl : Led} {value slice : PySem.Expr} {a : Addr} {ws : List Value} {k : Nat} {u : Tok} {x : Value} {Q : Value → Shared → Prop} (N : News g L s.heap nl) (hm : (a, lst ws) ∈ nl) (hx : ws[k]? = some x) (hk : k < 3) (h : Q x s)
    (hs : subscripted slice false (.ref a) (.int (0 + (k : Int)) u) = operate [.ref a, .int (0 + (k : Int)) u] (getItem (.ref a) (.int (0 + (k : Int)) u)) := by with_unfolding_all rfl) (hg : ∀ r, letTemporaryGo value (.ref a) r = pure () := by intro _; with_unfolding_all rfl) :
    wpAny (model prog w) A (subscriptTail value slice (.ref a) (.int (0 + (k : Int)) u)) Q E s :=
  item_listL (l := ws) ⟨_, (N _ hm).1, rfl, _, rfl⟩ (by omega) (by omega) (by simpa using hx) h hs hg
/-- the row of an index -/
theorem rows_at {tl : Led} {r0 r1 r2 : Value} {k0 k1 k2 : Key} {c00 c01 c02 c10 c11 c12 c20 c21 c22 : Cel} (R0 : RowAt tl r0 k0 c00 c01 c02) (R1 : RowAt tl r1 k1 c10 c11 c12) (R2 : RowAt tl r2 k2 c20 c21 c22) {j : Nat} {v : Value} (h : (#[r0, r1, r2] : Array Value)[j]? = some v) :
    ∃ k c0 c1 c2, RowAt tl v k c0 c1 c2 ∧ ([(k0, c00, c01, c02), (k1, c10, c11, c12), (k2, c20, c21, c22)] : List Rec)[j]? = some (k, c0, c1, c2) := by
  match j with
  | 0 => cases h; exact ⟨_, _, _, _, R0, rfl⟩
  | 1 => cases h; exact ⟨_, _, _, _, R1, rfl⟩
  | 2 => cases h; exact ⟨_, _, _, _, R2, rfl⟩
  | n + 3 => simp at h
noncomputable def colTri (i : Nat) (r : Rec) : List Tri := opT r.1 (colOf r.2.1 r.2.2.1 r.2.2.2 i)
theorem colTri_all (i : Nat) (a b c : Rec) : [a, b, c].flatMap (colTri i) = triOf a.1 b.1 c.1 (colOf a.2.1 a.2.2.1 a.2.2.2 i) (colOf b.2.1 b.2.2.1 b.2.2.2 i) (colOf c.2.1 c.2.2.1 c.2.2.2 i) := by
  simp [colTri, triOf]
section
variable {prog : Program} {w : World} {A : Around} {E : Value → Shared → Prop} {s : Shared} {h₀ : Heap} {L : Addr} {m : Str → Option Value} {env : Env}
inductive LstSrcA (Kp : Led → Prop) (prog : Program) (w : World) (A : Around) (h₀ : Heap) (L : Addr) (m : Str → Option Value) (env : Env) (elt target : PySem.Expr) (ifs : List PySem.Expr) (scope : Scope) (cl : List (Str × Addr)) (y : Str) (Q : Flow → Shared → Prop) (xv : Value) (s₁ : Shared) : Prop
  | intro (ax : Addr) (its : Array Value) (news : Led) (B : Value → (Str → Option Value) → Prop) (e : xv = .ref ax) (F : Fr h₀ L s₁.heap m) (N : News h₀ L s₁.heap news) (S : SrcAt h₀ ax its news ∧ Kp news) (hz : its.size ≤ sizeLine) (ha : Asg prog w A h₀ L m env target scope cl (fun nw => SrcAt h₀ ax its nw ∧ Kp nw) (fun i v => its[i]? = some v) B its.size)
      (R : ∀ g : Heap, CRest prog w A h₀ L m env ifs elt scope cl { s₁ with heap := g } (fun nw => SrcAt h₀ ax its nw ∧ Kp nw) (fun i v => its[i]? = some v) B (FinA h₀ L m { s₁ with heap := g } y Q) its.size 0 [] news)
theorem LstSrcA.mk {Kp : Led → Prop} {elt target : PySem.Expr} {ifs : List PySem.Expr} {scope : Scope} {cl : List (Str × Addr)} {y : Str} {Q : Flow → Shared → Prop} {ax : Addr} {its : Array Value} {news : Led} (B : Value → (Str → Option Value) → Prop) (F : Fr h₀ L s.heap m) (N : News h₀ L s.heap news) (hS : SrcAt h₀ ax its news ∧ Kp news) (hz : its.size ≤ sizeLine)
    (ha : Asg prog w A h₀ L m env target scope cl (fun nw => SrcAt h₀ ax its nw ∧ Kp nw) (fun i v => its[i]? = some v) B its.size) (R : ∀ g : Heap, CRest prog w A h₀ L m env ifs elt scope cl { s with heap := g } (fun nw => SrcAt h₀ ax its nw ∧ Kp nw) (fun i v => its[i]? = some v) B (FinA h₀ L m { s with heap := g } y Q) its.size 0 [] news) :
    LstSrcA Kp prog w A h₀ L m env elt target ifs scope cl y Q (.ref ax) s := ⟨ax, its, news, B, rfl, F, N, hS, hz, ha, R⟩
theorem assign_lstK {Kp : Led → Prop} {elt target iter : PySem.Expr} {ifs : List PySem.Expr} {scope : Scope} {cl : List (Str × Addr)} {y : Str} {py pos spos : Pos} {Q : Flow → Shared → Prop} (hh : A.handled = none) (hLe : env.locals = L)
    (hsw : swapsWith (.ListComp elt [⟨target, iter, ifs, 0⟩] scope pos) (some (.Name y py)) spos.line env = pure true)
    (hclos : closureFor scope env = pure cl) (hcell : ∀ y ∈ scope.names, y.2 ≠ .cell) (hkind : scope.kind = .function)
    (hnames : ∀ y ∈ scope.names, y.2 = .local → scope.names.lookup y.1 = some .local) (hy : env.kindOf y = some .local) (hp : (env.scope.kind == .class || (env.scope.kind == .module && env.locals != env.globals)) = false) (hs : ∀ x, foldedSetIterable iter env x = pure x)
    (_F : Fr h₀ L s.heap m) (h : wpAny (model prog w) A (eval iter env) (LstSrcA Kp prog w A h₀ L m env elt target ifs scope cl y Q) E s) :
    wpAny (model prog w) A (exec (.Assign [.Name y py] (.ListComp elt [⟨target, iter, ifs, 0⟩] scope pos) spos) env) Q E s := by
  subst hLe
  rw [exec_Assign_Name_used _ _ _ _ hsw]
  refine wpAny_bind (wpAny_standAt (wpAny_bind ?_))
  show wpAny _ A (do let _ ← comprehension (.ListComp elt [⟨target, iter, ifs, 0⟩] scope pos) scope env _ (newList []) false (eval iter env) (some (assign (.Name y py) env))) _ _ s
  refine wpAny_bind (wpAny_mono (wpAny_comprehension_free (use := some (assign (.Name y py) env)) (Q := fun _ s' => Q .next s') rfl hs hclos hkind hnames
    (wpAny_mono h (fun xv s₁ h₁ => ?_) fun _ _ e => e)) (fun _ s' hq => wpAny_pure (wpAny_pure hq)) fun _ _ e => e)
  obtain ⟨ax, its, news, B, rfl, F, N, S, hsz, hasg, R⟩ := h₁
  have hl := S.1.list F.keep N
  have hlt : ax < s₁.heap.objs.size := by obtain ⟨_, e, _⟩ := hl; exact Heap.lt_size e
  refine wpAny_pyIter_list hl ?_
  have up : ∀ b o, s₁.heap.get? b = some o → (s₁.heap.push { cls := .type "list_iterator", data := .fields #[.ref ax, .int 0 0] }).get? b = some o := fun b o e => Heap.get?_push_of_some _ e
  refine wpAny_mono (comp_block (B := B) (S := fun nw => SrcAt h₀ ax its nw ∧ Kp nw) (Fin := FinA h₀ env.locals m { s₁ with heap := s₁.heap.push { cls := .type "list_iterator", data := .fields #[.ref ax, .int 0 0] } } y Q) (news := news)
    (RR := compPost (model prog w) A E (some (assign (.Name y py) env)) (fun _ s' => Q .next s')) (Walks.list hh s₁.heap.objs.size ax (Nat.ne_of_lt hlt) its) hsz (fun i h st => by obtain ⟨o, e, _⟩ := st.1; exact ⟨o, e⟩) (fun i h h' o nw st e e' k N S => list_st i h h' o nw st e e' k N S.1)
    (fun i s v Q E' st hQ => by obtain ⟨o, e, hc, _⟩ := st.1; exact goQuiet e hc (by decide) hQ) hasg hcell hkind ⟨⟨_, Heap.get?_push_size _ rfl, rfl, rfl⟩, hl.push _⟩ (fun b hb => ?_)
    (F.keeps up) (N.grown up) (Nat.ne_of_lt F.ns.lt) (next_is_new F) (fun p hp => Nat.ne_of_lt (Heap.lt_size (N p hp).1)) S (R _) ?_) (fun _ _ q => wpAny_mono q (fun _ _ q => q) fun _ _ q => q.elim) fun _ _ q => q.elim
  · show b < (s₁.heap.push _).objs.size
    rw [Heap.size_push]
    rcases List.mem_cons.mp hb with rfl | hb
    · exact Nat.lt_succ_self _
    · rw [List.mem_singleton.mp hb]; exact Nat.lt_succ_of_lt hlt
  · intro D C h' tk m' ys news' F' N' o1 hn hC₀ hD₀ hCL hDL hCD offC hlt fin
    show wpAny _ A (assign (.Name y py) env (.ref D)) _ _ _
    refine wpAny_assign_Name (wpAny_storeName_local hy F'.ns (fun h₂ hn₂ hs₂ => ?_) hp)
    have hL₀ : h₀.get? env.locals = none := Heap.get?_none_of_le F'.above
    have F₂ : Fr h₀ env.locals h₂ (fun z => if z = y then some (.ref D) else m z) := ⟨hn₂, fun b o e => hs₂.extBut b o (fun q => by rw [q, hL₀] at e; cases e) (F'.keep b o e), F'.above⟩
    refine ⟨m', hn.sameBut hs₂ hCL, fun h'' hs'' => fin D h'' _ (F₂.change hs'' hCL hC₀) (fun p hp => ?_) o1⟩
    have z : h₂.get? p.1 = some p.2 := hs₂.extBut _ _ (N' p hp).2.1 (N' p hp).1
    refine ⟨hs''.extBut _ _ ?_ z, (N' p hp).2⟩
    rcases List.mem_cons.mp hp with rfl | hp
    · exact Ne.symm hCD
    · exact offC p hp
theorem tests_one {c : PySem.Expr} {Q : Bool → Shared → Prop} (h : wpAny (model prog w) A (isTrue c env (eval c env)) Q E s) : wpAny (model prog w) A (tests env [c]) Q E s := by
  show wpAny (model prog w) A (forIn [c] true _) Q E s
  rw [List.forIn_cons]
  simp only [if_true]
  refine wpAny_bind (wpAny_bind (wpAny_mono h (fun ok s' h' => ?_) fun _ _ e => e))
  refine wpAny_pure ?_
  dsimp only
  rw [List.forIn_nil]
  exact wpAny_pure h'
theorem cellNm {g h : Heap} {L I ca : Addr} {oI o : Obj} {r : Led} {v : Option Value} (N : News g L h ((I, oI) :: (ca, o) :: r)) (d : o.data = .cell v) : ∃ oc, News g L h ((I, oI) :: (ca, oc) :: r) ∧ oc.data = .cell v := ⟨o, N, d⟩
end
end Mine
end

section
open PySem PySem.Spec PySem.W PyProof.Rows PySem.Calls PyProof.Rows.LCg
namespace Mine
section
variable {k : Key} {c0 c1 c2 : Cel} {pd : PyData}
theorem told_A (h : c1 = c2 ∨ c2 = c0) : toldC (k, c0, c1, c2) = c1 ∧ clashD pd (k, c0, c1, c2) = [] := by
  refine ⟨?_, if_neg fun q => ?_⟩
  · unfold toldC
    dsimp only
    rcases h with rfl | rfl
    · split <;> rfl
    · split
      · rename_i e; exact e.symm
      · rfl
  · rcases h with h | h
    · exact q.2.2 h
    · exact q.2.1 h
theorem told_B (h : ¬ (c1 = c2 ∨ c2 = c0)) (e : c1 = c0) : toldC (k, c0, c1, c2) = c2 ∧ clashD pd (k, c0, c1, c2) = [] :=
  ⟨if_pos e, if_neg fun q => q.1 e⟩
theorem told_C (h : ¬ (c1 = c2 ∨ c2 = c0)) (e : ¬ c1 = c0) : toldC (k, c0, c1, c2) = c1 ∧ clashD pd (k, c0, c1, c2) = [.tuple [.str "attribute", pd, keyD k.1, celD c1, celD c2]] :=
  ⟨if_neg e, if_pos ⟨e, fun q => h (.inr q), fun q => h (.inl q)⟩⟩
theorem eqv_A (h : c1 = c2 ∨ c2 = c0) : (PyData.eqv (celD c1) (celD c2) || PyData.eqv (celD c2) (celD c0)) = true := by
  rw [ceq, ceq]; rcases h with h | h <;> simp [h]
theorem eqv_N (h : ¬ (c1 = c2 ∨ c2 = c0)) : (PyData.eqv (celD c1) (celD c2) || PyData.eqv (celD c2) (celD c0)) = false := by
  rw [ceq, ceq]; simp only [not_or] at h; simp [h.1, h.2]
theorem eqv_Y (h : c1 = c0) : PyData.eqv (celD c1) (celD c0) = true := by rw [ceq]; simp [h]
theorem eqv_Z (h : ¬ c1 = c0) : PyData.eqv (celD c1) (celD c0) = false := by rw [ceq]; simp [h]
theorem attr_ok : PyData.strOk "attribute" = true := by decide +kernel
theorem foundOk {r : Rec} {A : Addr → Obj → Prop} (hk : KeyAt A r.1.1 r.1.2) (o0 : CelOk r.2.1) (o1 : CelOk r.2.2.1) (o2 : CelOk r.2.2.2) : OkDs 4 (foundD r) := by
  have ht : CelOk (toldC r) := by
    unfold toldC
    split <;> assumption
  cases e : toldC r with
  | none => rw [foundD_none e]; exact .nil
  | some q =>
    obtain ⟨n, x⟩ := q
    rw [foundD_some e]
    rw [e] at ht
    exact .cons (.tuple (.cons hk.dl.2 (.cons (.str ht.1) (.cons (.str ht.2) .nil)))) .nil
theorem clashOk {r : Rec} {A : Addr → Obj → Prop} (hpd : OkD 3 pd) (hk : KeyAt A r.1.1 r.1.2) (o0 : CelOk r.2.1) (o1 : CelOk r.2.2.1) (o2 : CelOk r.2.2.2) : OkDs 4 (clashD pd r) := by
  unfold clashD
  split
  · exact .cons (.tuple (.cons (.str attr_ok) (.cons hpd (.cons hk.dl.2 (.cons o1.ok (.cons o2.ok .nil)))))) .nil
  · exact .nil
theorem okDs_flat {k : Nat} {f : Rec → List PyData} : ∀ {l : List Rec}, (∀ r ∈ l, OkDs k (f r)) → OkDs k (l.flatMap f)
  | [], _ => by simpa using OkDs.nil
  | r :: l, h => by
    rw [List.flatMap_cons]
    exact (h r (.head _)).append (okDs_flat fun q hq => h q (.tail _ hq))
theorem mergedOk {l : List Rec} (h1 : ∀ r ∈ l, OkDs 4 (foundD r)) (h2 : ∀ r ∈ l, OkDs 4 (clashD pd r)) : OkD 6 (mergedD pd l) :=
  .tuple (.cons (.tuple (okDs_flat h1)) (.cons (.list (okDs_flat h2)) .nil))
theorem RowAt.ok {tl : Led} {r : Value} (h : RowAt tl r k c0 c1 c2) : CelOk c0 ∧ CelOk c1 ∧ CelOk c2 ∧ KeyAt (Of tl) k.1 k.2 := by
  obtain ⟨_, _, _, _, _, _, _, _, _, _, _, b0, b1, b2, hk⟩ := h
  exact ⟨b0, b1, b2, hk⟩
end
theorem mergedOk3 {tl : Led} {r0 r1 r2 : Value} {k0 k1 k2 : Key} {c00 c01 c02 c10 c11 c12 c20 c21 c22 : Cel} {pd : PyData} (hpd : OkD 3 pd) (R0 : RowAt tl r0 k0 c00 c01 c02) (R1 : RowAt tl r1 k1 c10 c11 c12) (R2 : RowAt tl r2 k2 c20 c21 c22) :
    OkD 6 (mergedD pd [(k0, c00, c01, c02), (k1, c10, c11, c12), (k2, c20, c21, c22)]) := by
  have all : ∀ r ∈ ([(k0, c00, c01, c02), (k1, c10, c11, c12), (k2, c20, c21, c22)] : List Rec), KeyAt (Of tl) r.1.1 r.1.2 ∧ CelOk r.2.1 ∧ CelOk r.2.2.1 ∧ CelOk r.2.2.2 := by
    intro r hr
    simp only [List.mem_cons, List.not_mem_nil, or_false] at hr
    rcases hr with rfl | rfl | rfl
    · obtain ⟨a, b, c, d⟩ := R0.ok; exact ⟨d, a, b, c⟩
    · obtain ⟨a, b, c, d⟩ := R1.ok; exact ⟨d, a, b, c⟩
    · obtain ⟨a, b, c, d⟩ := R2.ok; exact ⟨d, a, b, c⟩
  exact mergedOk (fun r hr => let ⟨a, b, c, d⟩ := all r hr; foundOk a b c d) (fun r hr => let ⟨a, b, c, d⟩ := all r hr; clashOk hpd a b c d)
/-- a pair of names is bound to a tuple's items, in a def's frame -/
theorem asgPairL {prog : Program} {w : World} {A : Around} {E : Value → Shared → Prop} {s : Shared} {h₀ : Heap} {m : Str → Option Value} {env : Env} {news : Led} {a b : Str} {pa pb tp : Pos} {kk : Nat} {T : Addr} {x y : Value} {Q : Unit → Shared → Prop} (hh : A.handled = none)
    (F : Fr h₀ env.locals s.heap m) (N : News h₀ env.locals s.heap news) (hT : (T, tup [x, y]) ∈ news) (ha : env.kindOf a = some .local) (hb : env.kindOf b = some .local)
    (hp : (env.scope.kind == .class || (env.scope.kind == .module && env.locals != env.globals)) = false)
    (h : ∀ h' tk, Fr h₀ env.locals h' (fun z => if z = b then some y else if z = a then some x else m z) → News h₀ env.locals h' news → Q () { s with heap := h', toks := tk }) :
    wpAny (model prog w) A (assign (.Tuple [.Name a pa, .Name b pb] kk tp) env (.ref T)) Q E s := by
  refine wpAny_assign_Tuple hh ⟨_, (N _ hT).1, rfl, _, rfl⟩ rfl rfl fun h₁ he₁ => ?_
  have hL : env.locals ≠ s.heap.objs.size := Nat.ne_of_lt F.ns.lt
  have up₁ : ∀ c o, s.heap.get? c = some o → h₁.get? c = some o := fun c o e => he₁ c o (Nat.ne_of_lt (Heap.lt_size e)) e
  have hL₀ : h₀.get? env.locals = none := Heap.get?_none_of_le F.above
  refine assignInOrder_cons ?_
  refine wpAny_assign_Name (wpAny_storeName_local ha (F.ns.at' fun o e => up₁ _ o e) (fun h₂ hn₂ hs₂ => ?_) hp)
  refine assignInOrder_cons ?_
  refine wpAny_assign_Name (wpAny_storeName_local hb hn₂ (fun h₃ hn₃ hs₃ => ?_) hp)
  refine assignInOrder_nil ?_
  refine h h₃ _ ⟨hn₃, fun c o e => ?_, F.above⟩ fun p hp => ⟨?_, (N p hp).2⟩
  · have hc : c ≠ env.locals := fun q => by rw [q, hL₀] at e; cases e
    exact hs₃.extBut c o hc (hs₂.extBut c o hc (up₁ _ _ (F.keep _ _ e)))
  · have hc := (N p hp).2.1
    exact hs₃.extBut _ _ hc (hs₂.extBut _ _ hc (up₁ _ _ (N p hp).1))
theorem asgTriL {prog : Program} {w : World} {A : Around} {E : Value → Shared → Prop} {s : Shared} {h₀ : Heap} {m : Str → Option Value} {env : Env} {news : Led} {a b c : Str} {pa pb pc tp : Pos} {kk : Nat} {T : Addr} {x y z : Value} {Q : Unit → Shared → Prop} (hh : A.handled = none)
    (F : Fr h₀ env.locals s.heap m) (N : News h₀ env.locals s.heap news) (hT : (T, tup [x, y, z]) ∈ news) (ha : env.kindOf a = some .local) (hb : env.kindOf b = some .local) (hc : env.kindOf c = some .local)
    (hp : (env.scope.kind == .class || (env.scope.kind == .module && env.locals != env.globals)) = false)
    (h : ∀ h' tk, Fr h₀ env.locals h' (fun q => if q = c then some z else if q = b then some y else if q = a then some x else m q) → News h₀ env.locals h' news → Q () { s with heap := h', toks := tk }) :
    wpAny (model prog w) A (assign (.Tuple [.Name a pa, .Name b pb, .Name c pc] kk tp) env (.ref T)) Q E s := by
  refine wpAny_assign_Tuple hh ⟨_, (N _ hT).1, rfl, _, rfl⟩ rfl rfl fun h₁ he₁ => ?_
  have up₁ : ∀ c o, s.heap.get? c = some o → h₁.get? c = some o := fun c o e => he₁ c o (Nat.ne_of_lt (Heap.lt_size e)) e
  have hL₀ : h₀.get? env.locals = none := Heap.get?_none_of_le F.above
  refine assignInOrder_cons ?_
  refine wpAny_assign_Name (wpAny_storeName_local ha (F.ns.at' fun o e => up₁ _ o e) (fun h₂ hn₂ hs₂ => ?_) hp)
  refine assignInOrder_cons ?_
  refine wpAny_assign_Name (wpAny_storeName_local hb hn₂ (fun h₃ hn₃ hs₃ => ?_) hp)
  refine assignInOrder_cons ?_
  refine wpAny_assign_Name (wpAny_storeName_local hc hn₃ (fun h₄ hn₄ hs₄ => ?_) hp)
  refine assignInOrder_nil ?_
  refine h h₄ _ ⟨hn₄, fun c o e => ?_, F.above⟩ fun p hp => ⟨?_, (N p hp).2⟩
  · have hc : c ≠ env.locals := fun q => by rw [q, hL₀] at e; cases e
    exact hs₄.extBut c o hc (hs₃.extBut c o hc (hs₂.extBut c o hc (up₁ _ _ (F.keep _ _ e))))
  · have hc := (N p hp).2.1
    exact hs₄.extBut _ _ hc (hs₃.extBut _ _ hc (hs₂.extBut _ _ hc (up₁ _ _ (N p hp).1)))
theorem dls_ints {A B : Addr → Obj → Prop} : ∀ {is : List Int} {vs : List Value}, DLs A vs (is.map .int) → DLs B vs (is.map .int)
  | [], _, h => by cases h; exact .nil
  | i :: is, _, h => by
    cases h with
    | cons a r => cases a; exact .cons (.int _ _) (dls_ints r)
theorem path_base {g : Heap} {S : Addr} {o : Obj} {path : Value} {pd : PyData} (h : ∃ is : List Int, pd = .tuple (is.map .int)) (ho : SrcO o) (x : DL (At g [(S, o)]) path pd) : DL (At g []) path pd := by
  obtain ⟨is, rfl⟩ := h
  cases x with
  | tuple hm hc hd he r =>
    refine .tuple ?_ hc hd he (dls_ints r)
    rcases hm with e | e
    · exact .inl e
    · exfalso
      obtain ⟨a, ta, b, tb, n, rfl⟩ := ho
      simp only [List.mem_singleton, Prod.mk.injEq] at e
      obtain ⟨-, rfl⟩ := e
      simp [W.listOf] at hc
theorem subLof {prog : Program} {w : World} {A : Around} {E : Value → Shared → Prop} {s : Shared} {g : Heap} {L : Addr} {nl : Led} {value slice : PySem.Expr} {a : Addr} {ws : List Value} {c : Nat} {k : Int} {u : Tok} {x : Value} {Q : Value → Shared → Prop} (N : News g L s.heap nl) (hm : (a, W.listOf ws.toArray c) ∈ nl) (h0 : 0 ≤ k) (h8 : k < 8) (hx : ws[k.toNat]? = some x) (h : Q x s)
    (hs : subscripted slice false (.ref a) (.int k u) = operate [.ref a, .int k u] (getItem (.ref a) (.int k u)) := by with_unfolding_all rfl) (hg : ∀ r, letTemporaryGo value (.ref a) r = pure () := by intro _; with_unfolding_all rfl) :
    wpAny (model prog w) A (subscriptTail value slice (.ref a) (.int k u)) Q E s :=
  item_listL (l := ws) ⟨_, (N _ hm).1, rfl, _, rfl⟩ h0 (by omega) hx h hs hg
theorem subTup {prog : Program} {w : World} {A : Around} {E : Value → Shared → Prop} {s : Shared} {g : Heap} {L : Addr} {nl : Led} {value slice : PySem.Expr} {a : Addr} {ws : List Value} {k : Int} {j : Nat} {u : Tok} {x : Value} {Q : Value → Shared → Prop} (N : News g L s.heap nl) (hm : (a, tup ws) ∈ nl) (h0 : 0 ≤ k) (h8 : k < 8) (hj : seqIndex? k ws.length = some j) (hx : ws[j]? = some x) (h : Q x s)
    (hs : subscripted slice false (.ref a) (.int k u) = operate [.ref a, .int k u] (getItem (.ref a) (.int k u)) := by with_unfolding_all rfl) :
    wpAny (model prog w) A (subscriptTail value slice (.ref a) (.int k u)) Q E s :=
  item_tupleT (l := ws) ⟨_, (N _ hm).1, rfl, _, rfl⟩ (by omega) (by omega) hj hx h hs
end Mine
end

section
open PySem PySem.Spec PySem.W PyProof.Rows PySem.Calls PyProof.Rows.LCg
namespace Mine
theorem linesCAR1 : True := by
  k_with_none
  k_with "ne" => (refine neN ?_; (try dsimp only); first | with_reducible assumption | with_reducible exact Ne.symm (by with_reducible assumption) | exact Nat.ne_of_lt (by first | with_reducible assumption | ((refine ltC (by with_reducible assumption) ?_); (repeat (first | with_reducible exact takeL | with_reducible exact sameL | with_reducible refine skipL ?_)); done) | fail) | exact Ne.symm (Nat.ne_of_lt (by first | with_reducible assumption | ((refine ltC (by with_reducible assumption) ?_); (repeat (first | with_reducible exact takeL | with_reducible exact sameL | with_reducible refine skipL ?_)); done) | fail)) | omega)
  k_with "unf" => repeat' (first | (k_unfold; (try dsimp only)) | ((try dsimp only); (fail_if_success (with_reducible show wpAny _ _ (exec (Stmt.Assign _ (PySem.Expr.ListComp _ _ _ _) _) _) _ _ _)); (fail_if_success (with_reducible show wpAny _ _ (eval (PySem.Expr.ListComp _ _ _ _) _) _ _ _)); (fail_if_success (with_reducible show wpAny _ _ (call (Value.type "tuple") _) _ _ _)); (fail_if_success (with_reducible show wpAny _ _ (call (Value.ref _) _) _ _ _)); (fail_if_success (with_reducible show wpAny _ _ (compareOp CmpOp.Eq (Value.ref _) (Value.ref _)) _ _ _)); walk1) | fail "no step")
  trivial

theorem linesCAR2 : True := by
  k_with "rel" => repeat' (first | (k_unfold; (try dsimp only)) | ((try dsimp only); w_not_for; (fail_if_success (with_reducible show wpAny _ _ (pyIter _) _ _ _)); (fail_if_success (with_reducible show wpAny _ _ (exec (Stmt.Assign _ (PySem.Expr.ListComp _ _ _ _) _) _) _ _ _)); (fail_if_success (with_reducible show wpAny _ _ (eval (PySem.Expr.ListComp _ _ _ _) _) _ _ _)); (fail_if_success (with_reducible show wpAny _ _ (call (Value.type "tuple") _) _ _ _)); (fail_if_success (with_reducible show wpAny _ _ (call (Value.ref _) _) _ _ _)); walk1) | fail "no step")
  k_with "iff" => repeat' (first | (k_unfold; (try dsimp only)) | ((try dsimp only); w_not_for; (fail_if_success (with_reducible show wpAny _ _ (exec (Stmt.If _ _ _ _) _) _ _ _)); (fail_if_success (with_reducible show wpAny _ _ (pyIter _) _ _ _)); (fail_if_success (with_reducible show wpAny _ _ (exec (Stmt.Assign _ (PySem.Expr.ListComp _ _ _ _) _) _) _ _ _)); (fail_if_success (with_reducible show wpAny _ _ (eval (PySem.Expr.ListComp _ _ _ _) _) _ _ _)); (fail_if_success (with_reducible show wpAny _ _ (call (Value.type "tuple") _) _ _ _)); (fail_if_success (with_reducible show wpAny _ _ (call (Value.ref _) _) _ _ _)); walk1) | fail "no step")
  k_with "in" => first | with_reducible assumption | ((with_reducible refine List.mem_cons_of_mem _ ?_); kqd_in) | fail
  k_with "subscriptTail Name Name ref int" => (k_here; k_dflt (refine' subAt (by k_asm) (by first | kqd_in | fail) (by with_reducible assumption) (by with_reducible assumption) ?_))
  trivial
noncomputable def Stage2 : Prop := True
theorem linesCAR3 : True := by
  k_with "subscriptTail Name Constant ref int" => ((with_reducible rename Stage2 => st9); k_here; k_dflt (refine' subLof (by k_asm) (by first | (((repeat (with_reducible refine List.mem_cons_of_mem _ ?_)); with_reducible assumption)) | fail) (by decide) (by decide) (by first | (exact rfl) | fail) ?_))
  k_with "subscriptTail Name Constant ref int" => ((with_reducible rename Stage2 => st9); k_here; k_dflt (refine' subTup (by k_asm) (by first | (((repeat (with_reducible refine List.mem_cons_of_mem _ ?_)); with_reducible assumption)) | fail) (by decide) (by decide) (by first | (exact rfl) | fail) (by first | (exact rfl) | fail) ?_))
  k_with "kall" => ((with_reducible rename Stage2 => st9); with_reducible assumption)
  k_with "mem" => ((with_reducible rename Stage2 => st9); first | with_reducible assumption | ((with_reducible refine List.mem_cons_of_mem _ ?_); k_mem))
  k_with "call builtin:list.append" => ((with_reducible rename Stage2 => st9); k_here; (with_reducible show wpAny _ _ (call (Value.builtin _) [Value.ref _, _]) _ _ _); k_dflt (refine' append_K (by k_asm) (by k_asm) (by first | k_upd | fail) ?_ (by with_reducible assumption); k_whole); intro wh' wF' wN'; (try k_sweep))
  trivial
theorem three {l : List Value} (h : l.length = 3) : ∃ a b c, l = [a, b, c] := by
  cases l with
  | nil => cases h
  | cons a l => cases l with
    | nil => cases h
    | cons b l => cases l with
      | nil => cases h
      | cons c l => cases l with
        | nil => exact ⟨a, b, c, rfl⟩
        | cons d l => cases h
theorem formsThree {A : Addr → Obj → Prop} {f : Nat → List Tri} {fl : List Value} (h : FormsOk A ((List.range 3).map f) fl) : Forms3 A f fl := by
  have e : (List.range 3).map f = [f 0, f 1, f 2] := rfl
  rw [e] at h
  cases h with
  | cons a1 a2 a3 h =>
    cases h with
    | cons b1 b2 b3 h =>
      cases h with
      | cons c1 c2 c3 h =>
        cases h
        exact ⟨_, _, _, _, _, _, _, _, _, _, _, _, _, _, _, _, _, _, _, _, _, rfl, a1, a2, a3, b1, b2, b3, c1, c2, c3⟩
theorem duNm {g h : Heap} {L D du cl ca fo : Addr} {oD oa ofo : Obj} {tl : Led} {m' : Str → Option Value} (F : Fr g L h m') (N : News g L h ((D, oD) :: (cl, W.listOf #[] 0) :: (du, W.listOf #[] 0) :: (ca, oa) :: (fo, ofo) :: tl)) (n1 : m' "due" = some (.ref du)) (n2 : m' "clashes" = some (.ref cl))
    (l1 : @LT.lt Nat _ ca du ∧ @LT.lt Nat _ fo du ∧ AllLt du tl) (l2 : @LT.lt Nat _ du cl ∧ @LT.lt Nat _ ca cl ∧ @LT.lt Nat _ fo cl ∧ AllLt cl tl) :
    ∃ du cl, (m' "due" = some (.ref du) ∧ m' "clashes" = some (.ref cl)) ∧ Fr g L h m' ∧ News g L h ((cl, W.listOf #[] 0) :: (du, W.listOf #[] 0) :: (fo, ofo) :: tl) ∧ @LT.lt Nat _ du cl ∧ (∀ p ∈ (fo, ofo) :: tl, p.1 ≠ du) ∧ (∀ p ∈ (fo, ofo) :: tl, p.1 ≠ cl) := by
  refine ⟨du, cl, ⟨n1, n2⟩, F, fun p hp => N p ?_, l2.1, fun p hp => ?_, fun p hp => ?_⟩
  · (revert hp; revert p; (repeat (refine List.forall_mem_cons.mpr ⟨by (repeat (first | with_reducible exact List.mem_cons_self | with_reducible refine List.mem_cons_of_mem _ ?_)), ?_⟩)); exact fun p hp => by ((repeat (with_reducible refine List.mem_cons_of_mem _ ?_)); exact hp))
  · rcases List.mem_cons.mp hp with rfl | hp
    · exact Nat.ne_of_lt l1.2.1
    · exact Nat.ne_of_lt (allLt_all _ l1.2.2 p hp)
  · rcases List.mem_cons.mp hp with rfl | hp
    · exact Nat.ne_of_lt l2.2.2.1
    · exact Nat.ne_of_lt (allLt_all _ l2.2.2.2 p hp)
theorem newsSwap {g h : Heap} {L : Addr} {x a b c : Addr × Obj} {r : Led} (N : News g L h (x :: a :: b :: c :: r)) : News g L h (a :: c :: b :: r) := fun p hp => N p (by
  rcases List.mem_cons.mp hp with rfl | hp
  · exact .tail _ (.head _)
  rcases List.mem_cons.mp hp with rfl | hp
  · exact .tail _ (.tail _ (.tail _ (.head _)))
  rcases List.mem_cons.mp hp with rfl | hp
  · exact .tail _ (.tail _ (.head _))
  · exact .tail _ (.tail _ (.tail _ (.tail _ hp))))
theorem newsSwap2 {g h : Heap} {L : Addr} {a b c : Addr × Obj} {r : Led} (N : News g L h (a :: b :: c :: r)) : News g L h (a :: c :: b :: r) := fun p hp => N p (by
  rcases List.mem_cons.mp hp with rfl | hp
  · exact .head _
  rcases List.mem_cons.mp hp with rfl | hp
  · exact .tail _ (.tail _ (.head _))
  rcases List.mem_cons.mp hp with rfl | hp
  · exact .tail _ (.head _)
  · exact .tail _ (.tail _ (.tail _ hp)))
theorem dueX {w : World} {dp un : Nat} {fs : Option (List Env)} {gd : Option (List Code)} {s : Shared} {Q E : Value → Shared → Prop} {h₀ : Heap} {L : Addr} {m : Str → Option Value} {news rest : Led} {v0 v1 v2 : Value} {d0 d1 d2 : Cel} {k : Key} {pd : PyData}
    (G : Gr w h₀) (F : Fr h₀ L s.heap m) (N : News h₀ L s.heap news) (hdp : dp + 8 < recursionLimit) (hun : un + 100 < cLine) (c0 : CelAt (Of rest) v0 d0) (c1 : CelAt (Of rest) v1 d1) (c2 : CelAt (Of rest) v2 d2) (S : ∀ p ∈ rest, p ∈ news) (o0 : CelOk d0) (o1 : CelOk d1) (o2 : CelOk d2)
    (ret : ∀ D vt b h' tk, CelAt (Of rest) vt (toldC (k, d0, d1, d2)) → clashD pd (k, d0, d1, d2) = (if b = true then [.tuple [.str "attribute", pd, keyD k.1, celD d1, celD d2]] else []) → Fr h₀ L h' m → News h₀ L h' ((D, tup [vt, .bool b]) :: news) → AllLt D news → Q (.ref D) { s with heap := h', toks := tk }) :
    wpAny (model PySem.Challenge.pw_xm0632_01 w) (AR dp un fs gd) (call (.ref 99) [v0, v1, v2]) Q E s := by
  have k0 : SeqAt.shaped (celD d0) = true := o0.ok.shaped (by decide)
  have k1 : SeqAt.shaped (celD d1) = true := o1.ok.shaped (by decide)
  have k2 : SeqAt.shaped (celD d2) = true := o2.ok.shaped (by decide)
  have a0 := (c0.up (B := At h₀ news) fun _ _ h => .inr (S _ h)).dl
  have a1 := (c1.up (B := At h₀ news) fun _ _ h => .inr (S _ h)).dl
  have a2 := (c2.up (B := At h₀ news) fun _ _ h => .inr (S _ h)).dl
  by_cases hA : d1 = d2 ∨ d2 = d0
  · obtain ⟨eT, eC⟩ := told_A (k := k) (pd := pd) hA
    exact dueA G F N hdp hun a0 a1 a2 k0 k1 k2 (eqv_A hA) fun D h' tk F' N' l => ret D v1 false h' tk (by rw [eT]; exact c1) eC F' N' l
  · by_cases hB : d1 = d0
    · obtain ⟨eT, eC⟩ := told_B (k := k) (pd := pd) hA hB
      exact dueB G F N hdp hun a0 a1 a2 k0 k1 k2 (eqv_N hA) (eqv_Y hB) fun D h' tk F' N' l => ret D v2 false h' tk (by rw [eT]; exact c2) eC F' N' l
    · obtain ⟨eT, eC⟩ := told_C (k := k) (pd := pd) hA hB
      exact dueC G F N hdp hun a0 a1 a2 k0 k1 k2 (eqv_N hA) (eqv_Z hB) fun D h' tk F' N' l => ret D v1 true h' tk (by rw [eT]; exact c1) eC F' N' l
theorem attributesRight {w : World} {dp un : Nat} {fs : Option (List Env)} {gd : Option (List Code)} {s : Shared} {Q E : Value → Shared → Prop} {h₀ : Heap} {L : Addr} {m : Str → Option Value} {news : Led} {path : Value} {pd : PyData} {S : Addr} {o : Obj} {up : Obj → Led}
    (G : Gr w h₀) (F : Fr h₀ L s.heap m) (N : News h₀ L s.heap news) (hdp : dp + 64 < recursionLimit) (hun : un + 400 < cLine) (hp : DL (At h₀ news) path pd) (hpd : OkD 3 pd) (hpt : ∃ is : List Int, pd = .tuple (is.map .int)) (U : UpdF S o news up) (ho : SrcO o)
    (ret : ∀ o' h' tk, SrcO o' → Fr h₀ L h' m → News h₀ L h' (up o') → Q (.bool true) { s with heap := h', toks := tk }) :
    wpAny (model PySem.Challenge.pw_xm0632_01 w) (AR dp un fs gd) (call (.ref 111) [.ref S, path]) Q E s := by
  obtain ⟨⟨loose, mean, mg, mb, T⟩, X⟩ := G
  obtain ⟨pre, post, rfl, hup, hpre, hpost⟩ := U.split
  refine wpAny_call ?_
  refine enterSC [(Str.ofString "source", .ref S), (Str.ofString "path", path)] [(S, o)] (fun p h => by rw [List.mem_singleton.mp h]; exact List.mem_append_right _ (.head _)) X T F N (by k_is) (by k_is) (by omega) (BindsTo.of_eq rfl) rfl (by decide +kernel) rfl rfl rfl ?_
  intro g L' h₁ tk0 cells X' T' sg hAt back F' N' Y' lt'
  have hSL : @LT.lt Nat _ S L' := lt' (S, o) (List.mem_append_right _ (.head _))
  k_cells Y'
  simp only [List.cons_append, List.nil_append] at N'
  have hp' := hp.up hAt
  have fin : ∀ o' h' tk m', SrcO o' → Fr g L' h' m' → News g L' h' [(S, o')] → Q (.bool true) { s with heap := h', toks := tk } := by
    intro o' h' tk m' ho' nF nN
    obtain ⟨bF, bN, bo, -⟩ := back _ _ _ nF nN
    refine ret o' _ _ ho' bF ?_
    rw [hup]
    intro p hp
    rcases List.mem_append.mp hp with hp | hp
    · exact ⟨bo p (List.mem_append_left _ hp) (by simpa using hpre p hp), (N p (List.mem_append_left _ hp)).2⟩
    · rcases List.mem_cons.mp hp with rfl | hp
      · exact bN _ (.head _)
      · exact ⟨bo p (List.mem_append_right _ (.tail _ hp)) (by simpa using hpost p hp), (N p (List.mem_append_right _ (.tail _ hp))).2⟩
  clear F N X T hAt back hp lt'
  ktr_rel
  with_reducible rename News g L' _ _ => nN
  with_reducible rename Fr g L' _ _ => nF
  have KS := keysStand (S := S) (path := path) nF ⟨rfl, rfl, rfl⟩ nN (by with_reducible assumption) (by with_reducible assumption) (by with_reducible assumption) (by with_reducible assumption) (by with_reducible assumption) (by with_reducible assumption) (by with_reducible assumption) (by with_reducible assumption)
  clear nN nF
  repeat (with_reducible rename _ ∧ _ => zz; clear zz)
  repeat (with_reducible rename News g _ _ _ => zz; clear zz)
  repeat (with_reducible rename Fr g _ _ _ => zz; clear zz)
  refine hideGoal fun GG hGG => ?_
  obtain ⟨m0, rw, kL, ck, tl0, q0, q1, q2, K0, K1, K2, nF, nm1, nm2, nm3, nN, mkL, k0, k1, k2, lrw, lo3, lork⟩ := KS
  refine hGG ?_
  clear hGG GG
  have st2 : Stage2 := trivial
  replace nF := frSet3 nF nm1 nm2 nm3
  refine For_turns nF ?_ (fun _ => rfl)
  ktr_rel
  with_reducible rename News g L' _ _ => nN
  with_reducible rename Fr g L' _ _ => nF
  refine turns_list (l := kL) (lo := W.listOf #[.ref q0, .ref q1, .ref q2] ck) (fun i m' nl => RowsJ g L' S rw path tl0 [(key0, K0), (key1, K1), (key2, K2)] i m' nl)
    rfl nF nN (.inr (.tail _ (.tail _ (.tail _ (.tail _ (.tail _ mkL)))))) rfl rfl ⟨rfl, rfl, [], 0, _, _, _, o, tl0, rfl, _, _, by assumption, by assumption, by assumption, ho, fun _ h => h, lork, lo3, rfl, .nil⟩ ?_ ?_
  · clear nF nN
    rintro i v m₁ nl h8 tk8 I oI R hR hi ⟨n1, n2, rs, c', oa, os, oc, so, tl', rfl, va, vs, da, ds, dc, hso, s1, s2, s3, s6, s7⟩ off hls F₁ N₁
    replace F₁ := frSet2 (x := "path") (x2 := "rows") F₁ n1 n2
    obtain ⟨k, hki, hrec⟩ := keyItems_at k0 k1 k2 hi
    obtain ⟨q, nm, ot, t1, t2, x, y, t, u, rfl, ek, mq, mK, ok1, ok2, ok3⟩ := hki
    have hrI : @Ne Nat rw I := off _ (.head _)
    have haI : @Ne Nat (L' + 1 + 1 + 1) I := off _ (.tail _ (.head _))
    have hsI : @Ne Nat (L' + 1 + 1) I := off _ (.tail _ (.tail _ (.head _)))
    have hcI : @Ne Nat (L' + 1) I := off _ (.tail _ (.tail _ (.tail _ (.head _))))
    have hSI : @Ne Nat S I := off _ (.tail _ (.tail _ (.tail _ (.tail _ (.head _)))))
    have hlI : ∀ p ∈ tl', @Ne Nat p.1 I := fun p hp => off _ (.tail _ (.tail _ (.tail _ (.tail _ (.tail _ hp)))))
    have s8 : ∀ p ∈ tl', p.1 ≠ L' + 1 + 1 := fun p hp => Ne.symm (Nat.ne_of_lt (Nat.lt_of_succ_lt (s3 p hp)))
    have s9 : ∀ p ∈ tl', p.1 ≠ S := fun p hp => Ne.symm (Nat.ne_of_lt (Nat.lt_trans hSL (Nat.lt_of_succ_lt (Nat.lt_of_succ_lt (Nat.lt_of_succ_lt (s3 p hp))))))
    have hi3 : i < 3 := by
      have := (Array.getElem?_eq_some_iff.mp hi).1
      simpa using this
    have zf : rs.toArray.size ≤ sizeLine := by simp; rw [sizeLine_eq]; omega
    have mq' := s1 _ mq
    have mK' := s1 _ mK
    refine asgTriL rfl F₁ N₁ (.tail _ (.tail _ (.tail _ (.tail _ (.tail _ (.tail _ mq')))))) rfl rfl rfl rfl ?_
    intro h9 tk9 nF nN
    clear F₁ N₁ off hi n1 n2 mq mK
    ktr_unf
    refine' comp_rng ?F1x rfl ?C1x (by decide) rfl (by decide) (fun _ => rfl) ?_
    case F1x => k_asm
    case C1x => with_unfolding_all rfl
    ktr_unf
    refine' takings (S := S) (grOf T' X') ?F2x ?N2x ?d2x ?u2x ?r2x (n := 3) rfl (by decide) rfl (by rfl) ?U2x ?o2x ?T2x ?n2x ?l2x ?h2x ?e2x ?_
    case F2x => k_asm
    case N2x => k_asm
    case d2x => (first | exact room hdp rfl | exact room hun rfl | (dsimp only [AR, Around.deeper]; omega))
    case u2x => (first | exact room hdp rfl | exact room hun rfl | (dsimp only [AR, Around.deeper]; omega))
    case r2x =>
      with_reducible rename IsRange _ _ _ _ _ _ _ _ => rgX
      exact rgX
    case U2x => k_updF
    case o2x => with_reducible assumption
    case T2x => exact List.Mem.head _
    case n2x => omega
    case l2x => simp
    case h2x => simp
    case e2x =>
      intro C oC I oI D ys o' h tk m₂ R E' F₁ N₁ hoC hcall
      (try dsimp only at N₁)
      ktr_unf
      exact hcall
    intro Rx ysx sox hhx ttx hyx hmx hsx nFx nNx offx
    obtain ⟨vx1, vx2, vx3, rfl⟩ := three hyx
    simp only [AllLt] at offx
    clear hyx
    ktr_unf
    with_reducible rename News g L' _ _ => nN
    with_reducible rename Fr g L' _ _ => nF
    obtain ⟨tlx, nN', z1, z2, z3, z4, z5⟩ := rowTurn nN (by with_reducible assumption) (by with_reducible assumption) (by with_reducible assumption) (by with_reducible assumption) (by with_reducible assumption) s2 s3 hlI s7 ek mK' ok1 hmx ⟨ok2, show PyData.strOk "1" = true by decide +kernel⟩ ⟨ok2, show PyData.strOk "2" = true by decide +kernel⟩ ⟨ok3, show PyData.strOk "2" = true by decide +kernel⟩
    rw [← take_snoc hrec] at z5
    refine hR _ _ (turnEnd (.inl rfl) nF nN' (.head _) (fun p hp => .tail _ hp) (List.forall_mem_cons.mpr ⟨hrI, List.forall_mem_cons.mpr ⟨haI, List.forall_mem_cons.mpr ⟨hsI, List.forall_mem_cons.mpr ⟨hcI, List.forall_mem_cons.mpr ⟨hSI, z4⟩⟩⟩⟩⟩) (.inr (.tail _ (.tail _ (.tail _ (.tail _ (.tail _ (z1 _ (s1 _ mkL))))))))
      ⟨rfl, rfl, _, _, _, _, _, _, _, rfl, va, _, da, by with_reducible assumption, dc, hsx, fun p hp => z1 _ (s1 _ hp), z2, z3, by rw [List.length_append, s6]; rfl, z5⟩)
  clear nF nN mkL k0 k1 k2 lork lo3
  repeat (with_reducible rename News g _ _ _ => zz; clear zz)
  repeat (with_reducible rename Fr g _ _ _ => zz; clear zz)
  rintro h' tk m' nl F₁ N₁ ⟨n1, n2, rs, c', oa, os, oc, so, tl', rfl, va, vs, da, -, -, hso, s1, s2, s3, -, s7⟩
  dsimp only
  replace F₁ := frSet2 (x := "path") (x2 := "rows") F₁ n1 n2
  ktr_unf
  with_reducible rename News g L' _ _ => nN
  with_reducible rename Fr g L' _ _ => nF
  have PK := rowsStand (path := path) hso da nF ⟨rfl, rfl, rfl⟩ nN (by with_reducible assumption) lrw hSL s3 s7
  clear nF nN s1 s2 s3 s7 hso da n1 n2 lrw
  repeat (with_reducible rename _ ∧ _ => zz; clear zz)
  obtain ⟨m0, fo, rw, oa, so, tl, r0, r1, r2, K0, K1, K2, c00, c01, c02, c10, c11, c12, c20, c21, c22, cw, v0, hso, nF, nm1, nm2, nm3, nN, da, mS, mrw, R0, R1, R2, hcfo, ltf, offc⟩ := PK
  have st2 : Stage2 := trivial
  replace nF := frSet3 nF nm1 nm2 nm3
  refine For_turns nF ?_ (fun _ => rfl)
  ktr_rel
  with_reducible rename News g L' _ _ => nN
  with_reducible rename Fr g L' _ _ => nF
  with_reducible rename IsRange _ _ _ _ _ _ _ _ => rgX
  have offo : ∀ p ∈ tl, p.1 ≠ fo := fun p hp => Nat.ne_of_lt (allLt_all _ ltf p hp)
  refine turns_range (l := rw) (lo := W.listOf #[r0, r1, r2] cw) (n := 3) (fun i m' nl => FormsJ L' rw fo path tl (fun i => triOf (key0, K0) (key1, K1) (key2, K2) (colOf c00 c01 c02 i) (colOf c10 c11 c12 i) (colOf c20 c21 c22 i)) i m' nl)
    rfl nF nN rgX (by decide +kernel) (by decide +kernel) (.inr (.tail _ (.tail _ mrw))) ⟨rfl, rfl, rfl, [], oa, 0, tl, rfl, _, da, fun _ h => h, offo, offc, Nat.le_refl _, .nil⟩ ?_ ?_
  · clear nF nN rgX
    repeat (with_reducible rename News g _ _ _ => zz; clear zz)
    repeat (with_reducible rename Fr g _ _ _ => zz; clear zz)
    rintro i t' m₁ nl h8 tk8 I oI R hR hi ⟨n1, n2, n3, fl, oa', c, tl', rfl, v1, da', s1, s2, s3, s4, s5⟩ off hls F₁ N₁
    replace F₁ := frSet3 F₁ n1 n2 n3
    have hcI : @Ne Nat (L' + 1 + 1 + 1) I := off _ (.head _)
    have hfI : @Ne Nat fo I := off _ (.tail _ (.head _))
    have s3' : ∀ p ∈ (fo, W.listOf fl.toArray c) :: tl', p.1 ≠ L' + 1 + 1 + 1 := fun p hp => by
      rcases List.mem_cons.mp hp with rfl | hp
      · exact Ne.symm (Nat.ne_of_lt hcfo)
      · exact s3 p hp
    ktr_unf
    with_reducible rename News g L' _ _ => nN
    with_reducible rename Fr g L' _ _ => nF
    obtain ⟨oc, nN, dc⟩ := cellNm nN (by with_reducible assumption)
    refine' assign_lstK (Kp := fun nw => ∀ p ∈ tl', p ∈ nw) ?hh3 ?L3 ?W3 ?C3 ?D3 ?K3 ?N3 ?Y3 ?P3 ?S3 nF ?_
    case hh3 => rfl
    case L3 => rfl
    case D3 => decide
    case K3 => rfl
    case N3 => decide
    case Y3 => rfl
    case P3 => rfl
    case S3 => exact fun _ => rfl
    trace "A1"
    case W3 => with_unfolding_all rfl
    trace "A2"
    case C3 => with_unfolding_all rfl
    trace "A3"
    ktr_unf
    refine LstSrcA.mk (its := #[r0, r1, r2]) (fun v m' => ∀ Rr K Sx, v = .ref Rr → (Rr, tup [.ref K, .ref Sx]) ∈ tl' → m' "key" = some (.ref K) ∧ m' "states" = some (.ref Sx)) nF nN ⟨.inr ⟨_, .tail _ (.tail _ (.tail _ (s1 _ mrw))), rfl, _, rfl⟩, fun p hp => .tail _ (.tail _ (.tail _ hp))⟩ (by rw [sizeLine_eq]; exact Nat.le_of_ble_eq_true rfl) (asg_pair rfl rfl rfl rfl ?_) fun gg => ?_
    · intro j v h nw hj hP hk N S
      obtain ⟨k, d0, d1, d2, hrow, -⟩ := rows_at R0 R1 R2 hP
      obtain ⟨Rr, Sx, ws, x, rfl, mR, mSx, -⟩ := hrow.at hi
      refine ⟨Rr, _, _, rfl, ⟨_, (N _ (S.2 _ (s1 _ mR))).1, rfl, _, rfl⟩, fun m' q1 q2 Rr' K' Sx' e m2 => ?_⟩
      cases e
      have e1 := (N _ (S.2 _ (s1 _ mR))).1
      have e2 := (N _ (S.2 _ m2)).1
      rw [e1] at e2
      cases e2
      exact ⟨q2 (by decide), q1⟩
    · refine crest_inv (fun j ys nl' => ∃ ex, nl' = (I, oI) :: (L' + 1 + 1 + 1, oc) :: (fo, W.listOf fl.toArray c) :: (ex ++ tl') ∧ (∀ p ∈ ex, p.1 ≠ I ∧ p.1 ≠ L' + 1 + 1 + 1 ∧ p.1 ≠ fo) ∧
        Trips (Of (ex ++ tl')) (([((key0, K0), c00, c01, c02), ((key1, K1), c10, c11, c12), ((key2, K2), c20, c21, c22)].take j).flatMap (colTri i)) ys) ?_ ?_ _ _ _ _ (Nat.zero_add _) ⟨[], rfl, fun _ h => (nomatch h), by simpa using Trips.nil⟩
      · rintro j v ys nl' I2 oI2 C oC D m₂ h tk E' Rq R0q hj hP ⟨ex, rfl, hex, hT⟩ hB hoC F₂ N₂ off2 ne2 hR2 hR02
        obtain ⟨k, d0, d1, d2, hrow, hrec⟩ := rows_at R0 R1 R2 hP
        obtain ⟨Rr, Sx, ws, x, rfl, mR, mSx, hx, hc, hok, hkk⟩ := hrow.at hi
        obtain ⟨b1, b2⟩ := hB Rr k.2 Sx rfl (s1 _ mR)
        have hT0 := hT
        obtain ⟨tx, htx⟩ : ∃ l, l = ex ++ tl' := ⟨_, rfl⟩
        have inx : ∀ p ∈ tl', p ∈ tx := fun p hp => by rw [htx]; exact List.mem_append_right _ hp
        have mSx' : (Sx, lst ws) ∈ tx := inx _ (s1 _ mSx)
        rw [← htx] at N₂ off2 hT
        clear nN nF
        refine tests_one ?_
        cases hcel : colOf d0 d1 d2 i with
        | none =>
          rw [hcel] at hc
          have e : x = .none := hc
          subst e
          ktr_unf
          with_reducible rename News g L' _ ((I2, oI2) :: _) => nN
          with_reducible rename Fr g L' _ _ => nF
          subst htx
          refine hR02 _ _ _ nF nN off2 ⟨.inr ⟨_, .tail _ (.tail _ (.tail _ (List.mem_append_right _ (s1 _ mrw)))), rfl, _, rfl⟩, fun p hp => .tail _ (.tail _ (.tail _ (List.mem_append_right _ hp)))⟩ ⟨ex, rfl, hex, ?_⟩
          rw [take_snoc hrec, List.flatMap_append]
          have e0 : [(k, d0, d1, d2)].flatMap (colTri i) = [] := by simp [colTri, hcel, opT]
          rw [e0, List.append_nil]
          exact hT0
        | some q =>
          obtain ⟨n, z⟩ := q
          rw [hcel] at hc hok
          obtain ⟨P, tn, tz, e, hP'⟩ := hc
          subst e
          have mP : (P, tup [.str n tn, .str z tz]) ∈ tx := inx _ (s1 _ hP')
          ktr_unf
          rename_i T h9 qF qN ql
          subst htx
          obtain ⟨q1, q2, q3, q4⟩ := off2
          refine hR2 _ _ _ ((I, oI) :: (L' + 1 + 1 + 1, oc) :: (fo, W.listOf fl.toArray c) :: (((T, tup [.ref k.2, .str n tn, .str z tz]) :: ex) ++ tl')) qF (fun p hp => qN p ?_) ⟨q1, q2, q3, ⟨Ne.symm (Nat.ne_of_lt ql.1), Ne.symm (Nat.ne_of_lt ql.2.1), Ne.symm (Nat.ne_of_lt ql.2.2.1)⟩, q4⟩
            ⟨.inr ⟨_, .tail _ (.tail _ (.tail _ (List.mem_append_right _ (s1 _ mrw)))), rfl, _, rfl⟩, fun p hp => .tail _ (.tail _ (.tail _ (List.mem_append_right _ hp)))⟩ ⟨(T, tup [.ref k.2, .str n tn, .str z tz]) :: ex, rfl, fun p hp => ?_, ?_⟩
          · (revert hp; revert p; (repeat (refine List.forall_mem_cons.mpr ⟨by (repeat (first | with_reducible exact List.mem_cons_self | with_reducible refine List.mem_cons_of_mem _ ?_)), ?_⟩)); exact fun p hp => by ((repeat (with_reducible refine List.mem_cons_of_mem _ ?_)); exact hp))
          · rcases List.mem_cons.mp hp with rfl | hp
            · exact ⟨Ne.symm (Nat.ne_of_lt ql.2.2.2.1), Ne.symm (Nat.ne_of_lt ql.2.2.2.2.1), Ne.symm (Nat.ne_of_lt ql.2.2.2.2.2.1)⟩
            · exact hex p hp
          · rw [take_snoc hrec, List.flatMap_append]
            have e0 : [(k, d0, d1, d2)].flatMap (colTri i) = [(k, n, z)] := by simp [colTri, hcel, opT]
            rw [e0]
            exact (hT0.up fun _ _ h => List.Mem.tail _ h).append (.cons (List.Mem.head _) (hkk.up fun _ _ h => List.Mem.tail _ (List.mem_append_right _ (s1 _ h))) hok.1 hok.2 .nil)
      · rintro ys nl' ⟨ex, rfl, hex, hT⟩ Dt h tk F₂ N₂ oo
        have hT' : Trips (Of (ex ++ tl')) (triOf (key0, K0) (key1, K1) (key2, K2) (colOf c00 c01 c02 i) (colOf c10 c11 c12 i) (colOf c20 c21 c22 i)) ys := by
          have e := colTri_all i ((key0, K0), c00, c01, c02) ((key1, K1), c10, c11, c12) ((key2, K2), c20, c21, c22)
          rw [← e]
          have e9 : List.take (#[r0, r1, r2] : Array Value).size [((key0, K0), c00, c01, c02), ((key1, K1), c10, c11, c12), ((key2, K2), c20, c21, c22)] = [((key0, K0), c00, c01, c02), ((key1, K1), c10, c11, c12), ((key2, K2), c20, c21, c22)] := rfl
          rw [e9] at hT
          exact hT
        have s2x : ∀ p ∈ ex ++ tl', p.1 ≠ fo := fun p hp => (List.mem_append.mp hp).elim (fun h => (hex p h).2.2) (s2 p)
        have s3x : ∀ p ∈ ex ++ tl', p.1 ≠ L' + 1 + 1 + 1 := fun p hp => (List.mem_append.mp hp).elim (fun h => (hex p h).2.1) (s3 p)
        have sIx : ∀ p ∈ ex ++ tl', @Ne Nat p.1 I := fun p hp => (List.mem_append.mp hp).elim (fun h => (hex p h).1) (fun h => off p (.tail _ (.tail _ h)))
        have s1x : ∀ p ∈ tl', p ∈ ex ++ tl' := fun p hp => List.mem_append_right _ hp
        have oo1 : @Ne Nat Dt I := fun q => oo.1 q.symm
        clear hT nN nF hex
        generalize ex ++ tl' = tx at hT' s2x s3x sIx s1x N₂ oo
        have oo2 : @Ne Nat Dt fo := fun q => oo.2.2.1 q.symm
        clear oo
        have zf : fl.toArray.size ≤ sizeLine := by simp; rw [sizeLine_eq]; omega
        dsimp only
        ktr_unf
        refine' elementForm (ts := triOf (key0, K0) (key1, K1) (key2, K2) (colOf c00 c01 c02 i) (colOf c10 c11 c12 i) (colOf c20 c21 c22 i)) (ys := ys) (c := ys.length) (ws := []) (grOf T' X') ?F5 ?N5 ?d5 ?u5 ?A5 ?C5 ?w5 ?t5 ?r5 ?l5 ?_
        case F5 => k_asm
        case N5 => k_asm
        case d5 => (first | exact room hdp rfl | exact room hun rfl | (dsimp only [AR, Around.deeper]; omega))
        case u5 => (first | exact room hdp rfl | exact room hun rfl | (dsimp only [AR, Around.deeper]; omega))
        case A5 => exact List.Mem.tail _ (List.Mem.tail _ (List.Mem.head _))
        case C5 => exact List.Mem.head _
        case w5 => exact Nat.zero_le _
        case t5 => exact hT'.up fun a o hh => .inr (List.Mem.tail _ (List.Mem.tail _ (List.Mem.tail _ (List.Mem.tail _ (List.Mem.tail _ (List.Mem.tail _ hh))))))
        case r5 => exact triOf_rising keys3
        case l5 => exact triOf_len
        intro Fm A' C' ft1 ft2 h6 tk6 F6 N6 fl1 fl2 fl3
        simp only [AllLt] at fl1 fl2 fl3
        obtain ⟨oF, eF, N7⟩ : ∃ oF, (∃ u1 u2 u3 u4, oF = tup [u1, u2, u3, .ref A', u4]) ∧ News g L' h6 ((Fm, oF) :: _) := ⟨_, ⟨_, _, _, _, rfl⟩, N6⟩
        clear N6
        have f1 : @LT.lt Nat _ fo Fm ∧ @LT.lt Nat _ (L' + 1 + 1 + 1) Fm ∧ @LT.lt Nat _ I Fm := ⟨fl3.2.2.2.2.2.2.2.1, fl3.2.2.2.2.2.2.1, fl3.2.2.2.2.2.1⟩
        have f2 : @LT.lt Nat _ fo A' ∧ @LT.lt Nat _ (L' + 1 + 1 + 1) A' ∧ @LT.lt Nat _ I A' := ⟨fl1.2.2.2.2.2.1, fl1.2.2.2.2.1, fl1.2.2.2.1⟩
        ktr_unf
        with_reducible rename News g L' _ _ => nN9
        with_reducible rename Fr g L' _ _ => nF9
        simp only [List.push_toArray] at nN9
        obtain ⟨u1, u2, u3, u4, eF⟩ := eF
        refine hR _ _ (turnEnd (nl := (L' + 1 + 1 + 1, oc) :: (fo, W.listOf (fl ++ [Value.ref Fm]).toArray (c + 1)) :: (Fm, oF) :: (A', tup ys) :: tx) (.inl rfl) nF9 nN9 ?q1 ?q2 ?q3 ?q4 ⟨rfl, rfl, rfl, fl ++ [Value.ref Fm], oc, c + 1, (Fm, oF) :: (A', tup ys) :: tx, rfl, _, dc, fun p hp => .tail _ (.tail _ (s1x _ (s1 p hp))), ?q5, ?q6, ?q7, ?q8⟩)
        case q1 => (repeat (first | with_reducible exact List.mem_cons_self | with_reducible refine List.mem_cons_of_mem _ ?_))
        case q2 =>
          intro p hp
          (revert hp; revert p; (repeat (refine List.forall_mem_cons.mpr ⟨by (repeat (first | with_reducible exact List.mem_cons_self | with_reducible refine List.mem_cons_of_mem _ ?_)), ?_⟩)); exact fun p hp => by ((repeat (with_reducible refine List.mem_cons_of_mem _ ?_)); exact hp))
        case q3 => exact List.forall_mem_cons.mpr ⟨hcI, List.forall_mem_cons.mpr ⟨hfI, allNe_cons f1.2.2 (allNe_cons f2.2.2 sIx)⟩⟩
        case q4 => exact .inr (.tail _ (.tail _ (.tail _ (.tail _ (s1x _ (s1 _ mrw))))))
        case q5 => exact allNe_cons f1.1 (allNe_cons f2.1 s2x)
        case q6 => exact allNe_cons f1.2.1 (allNe_cons f2.2.1 s3x)
        case q7 => (rw [List.length_append]; exact Nat.succ_le_succ s4)
        case q8 =>
          rw [List.range_succ, List.map_append]
          refine (s5.up fun _ _ h => List.Mem.tail _ (List.Mem.tail _ (s1x _ h))).append (.cons (u1 := u1) (u2 := u2) (u3 := u3) (u4 := u4) (Aa := A') (ys := ys) ?_ (List.Mem.tail _ (List.Mem.head _)) (hT'.up fun _ _ h => List.Mem.tail _ (List.Mem.tail _ h)) .nil)
          rw [← eF]
          exact List.Mem.head _
  · clear nF nN rgX
    repeat (with_reducible rename News g _ _ _ => zz; clear zz)
    repeat (with_reducible rename Fr g _ _ _ => zz; clear zz)
    rintro h' tk m' nl F₁ N₁ ⟨n1, n2, n3, fl, oa', c, tl', rfl, -, -, s1, s2, s3, s4, s5⟩
    dsimp only
    replace F₁ := frSet3 F₁ n1 n2 n3
    obtain ⟨Fa, Fb, Fc, Aa, Ab, Ac, ya, yb, yc, ua1, ua2, ua3, ua4, ub1, ub2, ub3, ub4, uc1, uc2, uc3, uc4, rfl, ma, mAa, ta, mb, mAb, tb, mc, mAc, tc⟩ := formsThree s5
    ktr_rel
    with_reducible rename News g L' _ _ => nN
    with_reducible rename Fr g L' _ _ => nF
    obtain ⟨du, cl, ⟨nm4, nm5⟩, nF, nN, ldc, odu, ocl⟩ := duNm nF nN rfl rfl (by with_reducible assumption) (by with_reducible assumption)
    obtain ⟨tl2, htl2⟩ : ∃ l : Led, l = (fo, W.listOf #[Value.ref Fa, Value.ref Fb, Value.ref Fc] c) :: tl' := ⟨_, rfl⟩
    rw [← htl2] at nN odu ocl
    replace nF := frSet5 (x := "path") (x2 := "rows") (x3 := "forms") (v := path) (v2 := .ref rw) (v3 := .ref fo) nF rfl rfl rfl nm4 nm5
    have mrw2 : (rw, W.listOf #[r0, r1, r2] cw) ∈ tl2 := by rw [htl2]; exact .tail _ (s1 _ mrw)
    have keep0 := And.intro nF nN
    clear nF nN nm4 nm5 mrw
    repeat (with_reducible rename News g _ _ _ => zz; clear zz)
    repeat (with_reducible rename Fr g _ _ _ => zz; clear zz)
    obtain ⟨nF, nN⟩ := keep0
    have hp0 : DL (At g []) path pd := path_base hpt ho hp'
    have up2 : ∀ p ∈ tl, p ∈ tl2 := fun p hp => by rw [htl2]; exact .tail _ (s1 _ hp)
    obtain ⟨r3, hr3⟩ : ∃ l : List Rec, l = [((key0, K0), c00, c01, c02), ((key1, K1), c10, c11, c12), ((key2, K2), c20, c21, c22)] := ⟨_, rfl⟩
    refine For_turns nF ?_ (fun _ => rfl)
    ktr_rel
    with_reducible rename News g L' _ _ => nN
    with_reducible rename Fr g L' _ _ => nF
    refine turns_list (l := rw) (lo := W.listOf #[r0, r1, r2] cw) (fun i m' nl => DueJ g rw fo du cl path pd tl2 r3 i m' nl)
      rfl nF nN (.inr (.tail _ (.tail _ mrw2))) rfl rfl ⟨rfl, rfl, rfl, rfl, rfl, [], [], 0, 0, tl2, rfl, fun _ h => h, odu, ocl, Nat.le_refl _, Nat.le_refl _, by simpa using DLs.nil, by simpa using DLs.nil⟩ ?_ ?_
    · clear nF nN
      rintro i v m₁ nl h8 tk8 I oI R hR hi ⟨n1, n2, n3, n4, n5, ysd, ysc, cd, cc, tl3, rfl, q1, q2, q3, q4, q5, q6, q7⟩ off hls F₁ N₁
      replace F₁ := frSet5 (x := "path") (x2 := "rows") (x3 := "forms") (x4 := "due") (x5 := "clashes") F₁ n1 n2 n3 n4 n5
      obtain ⟨k, d0, d1, d2, hrow, hrec⟩ := rows_at R0 R1 R2 hi
      obtain ⟨Rr, Sx, v0, v1, v2, rfl, mR, mSx, a0, a1, a2, b0, b1, b2, hk⟩ := hrow
      have up3 : ∀ p ∈ tl, p ∈ tl3 := fun p hp => q1 _ (up2 _ hp)
      have mSx3 := up3 _ mSx
      have hcI : @Ne Nat cl I := off _ (.head _)
      have hdI : @Ne Nat du I := off _ (.tail _ (.head _))
      have h3I : ∀ p ∈ tl3, @Ne Nat p.1 I := fun p hp => off _ (.tail _ (.tail _ hp))
      refine asgPairL rfl F₁ N₁ (.tail _ (.tail _ (.tail _ (up3 _ mR)))) rfl rfl rfl ?_
      intro h9 tk9 nF nN
      clear F₁ N₁ mR mSx
      have hr : r3[i]? = some (k, d0, d1, d2) := by rw [hr3]; exact hrec
      have tk1 : ∀ f : Rec → List PyData, (r3.take (i + 1)).flatMap f = (r3.take i).flatMap f ++ f (k, d0, d1, d2) := fun f => by rw [take_snoc hr, List.flatMap_append]; simp
      have hi3 : i < 3 := by
        have := (Array.getElem?_eq_some_iff.mp hi).1
        simpa using this
      have zd : ysd.toArray.size ≤ sizeLine := by simp; rw [sizeLine_eq]; omega
      have zc : ysc.toArray.size ≤ sizeLine := by simp; rw [sizeLine_eq]; omega
      ktr_unf
      refine' dueX (k := k) (pd := pd) (rest := tl) (grOf T' X') ?F6 ?N6 ?d6 ?u6 a0 a1 a2 ?S6 b0 b1 b2 ?_
      case F6 => k_asm
      case N6 => k_asm
      case d6 => (first | exact room hdp rfl | exact room hun rfl | (dsimp only [AR, Around.deeper]; omega))
      case u6 => (first | exact room hdp rfl | exact room hun rfl | (dsimp only [AR, Around.deeper]; omega))
      case S6 => exact fun p hp => .tail _ (.tail _ (.tail _ (up3 _ hp)))
      intro D9 vt b h10 tk10 hvt hcl F9 N9 l9
      clear l9 nF nN
      k_extra "iff"
      with_reducible rename News g L' _ _ => nN
      with_reducible rename Fr g L' _ _ => nF
      replace nN := newsSwap nN
      refine clash2 (I := I) (cl := du) (fo := cl) (oI := oI) (fobj := W.listOf ysc.toArray cc) (tl := tl3) (B := fun tx ys => DLs (At g tx) ys ((r3.take (i + 1)).flatMap foundD)) (k := i + 1) nF ?_ ?_
      · cases hc : toldC (k, d0, d1, d2) with
        | none =>
          rw [hc] at hvt
          have e : vt = .none := hvt
          subst e
          ktr_unf
          with_reducible rename News g L' _ _ => nN
          with_reducible rename Fr g L' _ _ => nF
          exact ⟨_, _, tl3, ysd, cd, rfl, rfl, nF, nN, fun _ h => h, h3I, q3, q2, Nat.le_succ_of_le q4, by rw [tk1, foundD_none hc, List.append_nil]; exact q6⟩
        | some q =>
          obtain ⟨n, x⟩ := q
          rw [hc] at hvt
          obtain ⟨P, tn, tx, e, hP⟩ := hvt
          have hP' := up3 _ hP
          clear hP
          subst e
          ktr_unf
          with_reducible rename News g L' _ _ => nN
          with_reducible rename Fr g L' _ _ => nF
          simp only [List.push_toArray] at nN
          refine ⟨_, _, _, _, _, rfl, rfl, nF, newsRot3 nN, fun p hp => .tail _ hp, List.forall_mem_cons.mpr ⟨by k_ne, h3I⟩, List.forall_mem_cons.mpr ⟨by k_ne, q3⟩, List.forall_mem_cons.mpr ⟨by k_ne, q2⟩, by rw [List.length_append]; exact Nat.succ_le_succ q4, ?_⟩
          rw [tk1, foundD_some hc]
          exact (q6.up (At.up fun p hp => .tail _ hp)).append (.cons (DL.tuple (.inr (.head _)) rfl rfl rfl (.cons (hk.up fun _ _ h => .inr (.tail _ (up3 _ h))).dl.1 (.cons (.str _ _) (.cons (.str _ _) .nil)))) .nil)
      · clear nF nN
        intro h11 tk11 tx ysd' cd' nF nN up nI nf nc z7 hB
        have mSx4 := up _ mSx3
        have close : ∀ (ty : Led) (ysc' : List Value) (cc' : Nat) (h' : Heap) (tk' : Nat) (m' : Str → Option Value), Fr g L' h' m' → (m' "path" = some path ∧ m' "rows" = some (.ref rw) ∧ m' "forms" = some (.ref fo) ∧ m' "due" = some (.ref du) ∧ m' "clashes" = some (.ref cl)) →
            News g L' h' ((I, oI) :: (cl, W.listOf ysc'.toArray cc') :: (du, W.listOf ysd'.toArray cd') :: ty) → (∀ p ∈ tx, p ∈ ty) → (∀ p ∈ ty, @Ne Nat p.1 I) → (∀ p ∈ ty, p.1 ≠ du) → (∀ p ∈ ty, p.1 ≠ cl) → ysc'.length ≤ i + 1 → DLs (At g ty) ysc' ((r3.take (i + 1)).flatMap (clashD pd)) → R .next { s with heap := h', toks := tk' } :=
          fun ty ysc' cc' h' tk' m' qF qn qN u y1 y2 y3 y4 y5 => hR _ _ (turnEnd (.inl rfl) qF qN (.head _) (fun p hp => .tail _ hp) (List.forall_mem_cons.mpr ⟨hcI, List.forall_mem_cons.mpr ⟨hdI, y1⟩⟩) (.inr (.tail _ (.tail _ (u _ (up _ (q1 _ mrw2))))))
            ⟨qn.1, qn.2.1, qn.2.2.1, qn.2.2.2.1, qn.2.2.2.2, ysd', ysc', cd', cc', ty, rfl, fun p hp => u _ (up _ (q1 p hp)), y2, y3, z7, y4, hB.up (At.up u), y5⟩)
        replace nN := newsSwap2 nN
        cases b with
        | false =>
          ktr_unf
          with_reducible rename News g L' _ _ => nN
          with_reducible rename Fr g L' _ _ => nF
          exact close tx ysc cc _ _ _ nF ⟨rfl, rfl, rfl, rfl, rfl⟩ nN (fun _ h => h) nI nc nf (Nat.le_succ_of_le q5) (by rw [tk1, hcl, if_neg Bool.false_ne_true, List.append_nil]; exact q7.up (At.up up))
        | true =>
          ktr_unf
          with_reducible rename News g L' _ _ => nN
          with_reducible rename Fr g L' _ _ => nF
          simp only [List.push_toArray] at nN
          refine close _ _ _ _ _ _ nF ⟨rfl, rfl, rfl, rfl, rfl⟩ (newsRot3 nN) (fun _ h => .tail _ h) (List.forall_mem_cons.mpr ⟨by k_ne, nI⟩) (List.forall_mem_cons.mpr ⟨by k_ne, nc⟩) (List.forall_mem_cons.mpr ⟨by k_ne, nf⟩) (by rw [List.length_append]; exact Nat.succ_le_succ q5) ?_
          rw [tk1, hcl, if_pos rfl]
          exact (q7.up (At.up fun p hp => .tail _ (up p hp))).append (.cons (DL.tuple (.inr (.head _)) rfl rfl rfl (.cons (.str _ _) (.cons (hp0.up (At.up fun _ h => absurd h List.not_mem_nil)) (.cons (hk.up fun _ _ h => .inr (.tail _ (up _ (up3 _ h)))).dl.1 (.cons (a1.up fun _ _ h => .inr (.tail _ (up _ (up3 _ h)))).dl (.cons (a2.up fun _ _ h => .inr (.tail _ (up _ (up3 _ h)))).dl .nil)))))) .nil)
    · clear nF nN
      rintro h' tk m' nl F₁ N₁ ⟨n1, n2, n3, n4, n5, ysd, ysc, cd, cc, tl3, rfl, q1, q2, q3, q4, q5, q6, q7⟩
      have e3 : (#[r0, r1, r2] : Array Value).size = 3 := rfl
      rw [e3] at q4 q5 q6 q7
      have e4 : r3.take 3 = r3 := by rw [hr3]; rfl
      rw [e4] at q6 q7
      replace F₁ := frSet5 (x := "path") (x2 := "rows") (x3 := "forms") (x4 := "due") (x5 := "clashes") F₁ n1 n2 n3 n4 n5
      have up3 : ∀ p ∈ tl, p ∈ tl3 := fun p hp => q1 _ (up2 _ hp)
      have upf : ∀ p ∈ tl', p ∈ tl3 := fun p hp => q1 _ (by rw [htl2]; exact .tail _ hp)
      have mfo : (fo, W.listOf #[Value.ref Fa, Value.ref Fb, Value.ref Fc] c) ∈ tl3 := q1 _ (by rw [htl2]; exact .head _)
      have ta' : Trips (Of tl') (triOf (key0, K0) (key1, K1) (key2, K2) c00 c10 c20) ya := ta
      have tb' : Trips (Of tl') (triOf (key0, K0) (key1, K1) (key2, K2) c01 c11 c21) yb := tb
      have tc' : Trips (Of tl') (triOf (key0, K0) (key1, K1) (key2, K2) c02 c12 c22) yc := tc
      obtain ⟨w00, w01, w02, wk0⟩ := R0.ok
      obtain ⟨w10, w11, w12, wk1⟩ := R1.ok
      obtain ⟨w20, w21, w22, wk2⟩ := R2.ok
      have mOk : OkD 6 (mergedD pd r3) := by rw [hr3]; exact mergedOk3 hpd R0 R1 R2
      have inF : ∀ a o, Of tl' a o → At g ((cl, W.listOf ysc.toArray cc) :: (du, W.listOf ysd.toArray cd) :: tl3) a o := fun a o h => .inr (.tail _ (.tail _ (upf _ h)))
      have inR : ∀ a o, Of tl a o → At g ((cl, W.listOf ysc.toArray cc) :: (du, W.listOf ysd.toArray cd) :: tl3) a o := fun a o h => .inr (.tail _ (.tail _ (up3 _ h)))
      dsimp only
      ktr_unf
      refine' mergedAttrs (grOf T' X') ?F8 ?N8 ?d8 ?u8 keys3 ?m1 ?m2 ?m3 (inF _ _ mAa) (inF _ _ mAb) (inF _ _ mAc) (ta'.up inF) (tb'.up inF) (tc'.up inF) (hp0.up (At.up fun _ h => absurd h List.not_mem_nil)) hpd (wk0.up inR) (wk1.up inR) (wk2.up inR) ?ok8 ?_
      case F8 => k_asm
      case N8 => k_asm
      case d8 => (first | exact room hdp rfl | exact room hun rfl | (dsimp only [AR, Around.deeper]; omega))
      case u8 => (first | exact room hdp rfl | exact room hun rfl | (dsimp only [AR, Around.deeper]; omega))
      case m1 => exact .tail _ (.tail _ (upf _ ma))
      case m2 => exact .tail _ (.tail _ (upf _ mb))
      case m3 => exact .tail _ (.tail _ (upf _ mc))
      case ok8 =>
        intro c hc
        simp only [List.mem_cons, List.not_mem_nil, or_false] at hc
        rcases hc with rfl | rfl | rfl | rfl | rfl | rfl | rfl | rfl | rfl <;> assumption
      intro R8 nl8 h8 tk8 F8 N8 DR
      rw [← hr3] at DR
      clear F₁ N₁
      ktr_unf
      have mdu : (du, W.listOf ysd.toArray cd) ∈ nl8 ++ (cl, W.listOf ysc.toArray cc) :: (du, W.listOf ysd.toArray cd) :: tl3 := List.mem_append_right _ (.tail _ (.head _))
      have mcl : (cl, W.listOf ysc.toArray cc) ∈ nl8 ++ (cl, W.listOf ysc.toArray cc) :: (du, W.listOf ysd.toArray cd) :: tl3 := List.mem_append_right _ (.head _)
      have mS3 : (S, so) ∈ nl8 ++ (cl, W.listOf ysc.toArray cc) :: (du, W.listOf ysd.toArray cd) :: tl3 := List.mem_append_right _ (.tail _ (.tail _ (up3 _ mS)))
      have dD : DLs (At g (nl8 ++ (cl, W.listOf ysc.toArray cc) :: (du, W.listOf ysd.toArray cd) :: tl3)) ysd (r3.flatMap foundD) := q6.up (At.up fun p hp => List.mem_append_right _ (.tail _ (.tail _ hp)))
      have dC : DLs (At g (nl8 ++ (cl, W.listOf ysc.toArray cc) :: (du, W.listOf ysd.toArray cd) :: tl3)) ysc (r3.flatMap (clashD pd)) := q7.up (At.up fun p hp => List.mem_append_right _ (.tail _ (.tail _ hp)))
      generalize nl8 ++ (cl, W.listOf ysc.toArray cc) :: (du, W.listOf ysd.toArray cd) :: tl3 = tlE at F8 N8 DR mdu mcl mS3 dD dC ⊢
      refine kde_tupleOf F8 N8 ⟨_, (N8 _ mdu).1, rfl, _, rfl⟩ (by simp; omega) (zs := ysd) (by simp) ?_
      intro T9 hT nF9 nN9 lt9
      clear F8 N8
      ktr_unf
      with_reducible rename News g _ _ (_ :: (T9, _) :: _) => nN
      with_reducible rename Fr g _ _ _ => nF
      have dl2 : ∀ p ∈ tlE, ∀ x y : Addr × Obj, p ∈ x :: y :: tlE := fun p hp x y => .tail _ (.tail _ hp)
      refine eqDL nF nN (DR.up (At.up fun p hp => dl2 p hp _ _)) (DL.tuple (ds := [.tuple (r3.flatMap foundD), .list (r3.flatMap (clashD pd))]) (.inr (.head _)) rfl rfl rfl (.cons (DL.tuple (.inr (.tail _ (.head _))) rfl rfl rfl (dD.up (At.up fun p hp => dl2 p hp _ _))) (.cons (DL.list (.inr (.tail _ (.tail _ mcl))) rfl rfl rfl (dC.up (At.up fun p hp => dl2 p hp _ _))) .nil))) (mOk.shaped (by decide)) (mOk.shaped (by decide)) (by (first | exact room hdp rfl | exact room hun rfl | (dsimp only [AR, Around.deeper]; omega))) ?_
      rw [show PyData.eqv (mergedD pd r3) (.tuple [.tuple (r3.flatMap foundD), .list (r3.flatMap (clashD pd))]) = true from SeqAt.eqv_refl _ mOk.1]
      ktr_unf
      exact fin so _ _ _ hso nF fun p hp => by
        rw [List.mem_singleton.mp hp]
        exact nN _ (.tail _ (.tail _ mS3))
end Mine
end

section
open PySem PySem.Spec PySem.W PyProof.Rows PySem.Calls PyProof.Rows.LCg
namespace Mine
section
variable {prog : Program} {w : World} {A : Around} {E : Value → Shared → Prop} {s : Shared}
theorem wpAny_alive {a : Addr} {Q : Option Obj → Shared → Prop} (h : Q (s.heap.get? a) s) : wpAny (model prog w) A (loadIfAlive a) Q E s := fun _ _ _ => h

theorem nextT_item {it t : Addr} {i : Nat} {items : Array Value} {x : Value} {Q : Value → Shared → Prop} (hit : s.heap.IsTupleIter it t i)
    (hl : s.heap.IsTuple t items) (hx : items[i]? = some x) (hQ : ∀ h', h'.IsTupleIter it t (i + 1) → Heap.SameBut it s.heap h' → Q x { s with heap := h' }) :
    wpAny (model prog w) A (Builtin.SmallTypes.nextOf (.ref it)) Q E s := by
  obtain ⟨oi, hoi, hci, hdi⟩ := id hit
  obtain ⟨ot, hot, _, nt, hdt⟩ := hl
  unfold Builtin.SmallTypes.nextOf
  refine wpAny_bind (wpAny_callSpecial?_slot (name := Str.ofString "__next__") hit.typeIs PySem.F.slot_tuple_iterator_next
    (wpAny_call_entry PySem.F.slot_tuple_iterator_next hit.typeIs PySem.F.entry_tuple_iterator_next ?_ (PySem.F.args_tuple_iterator_next_1 _)))
  show wpAny _ _ (field (.ref it) 0 >>= _) _ _ s
  refine wpAny_bind (wpAny_field hoi hdi (x := .ref t) rfl ?_)
  show wpAny _ _ (if (Value.ref t == Value.none) = true then _ else _) _ _ s
  rw [if_neg (show ¬ ((Value.ref t == Value.none) = true) from Bool.false_ne_true)]
  show wpAny _ _ (field (.ref it) 1 >>= _) _ _ s
  refine wpAny_bind (wpAny_field hoi hdi (x := .int i 0) rfl ?_)
  show wpAny _ _ (seqItems? (.ref t) >>= _) _ _ s
  refine wpAny_bind (wpAny_seqItems hot hdt ?_)
  simp only [Int.toNat_natCast, hx]
  refine wpAny_bind (wpAny_setField hoi hdi (by simp) (wpAny_pure ⟨x, rfl, wpAny_pure (hQ _ ?_ (Heap.SameBut.update ..))⟩))
  exact ⟨_, Heap.get?_update_self _ hoi (Obj.isFreed_of_fields (Obj.data_mapFields hdi _)), (Obj.cls_mapFields ..).trans hci, by
    rw [Obj.data_mapFields hdi]; simp [rawInt]⟩

theorem nextT_end {it t : Addr} {i : Nat} {items : Array Value} {Q : Value → Shared → Prop} (hh : A.handled = none) (hit : s.heap.IsTupleIter it t i)
    (hl : s.heap.IsTuple t items) (hx : items[i]? = none) (hE : ∀ h' e, Heap.ExtBut it s.heap h' → (∃ o, h'.get? e = some o ∧ o.cls = .type "StopIteration") → E (.ref e) { s with heap := h' }) :
    wpAny (model prog w) A (Builtin.SmallTypes.nextOf (.ref it)) Q E s := by
  obtain ⟨oi, hoi, hci, hdi⟩ := id hit
  obtain ⟨ot, hot, _, nt, hdt⟩ := hl
  unfold Builtin.SmallTypes.nextOf
  refine wpAny_bind (wpAny_callSpecial?_slot (name := Str.ofString "__next__") hit.typeIs PySem.F.slot_tuple_iterator_next
    (wpAny_call_entry PySem.F.slot_tuple_iterator_next hit.typeIs PySem.F.entry_tuple_iterator_next ?_ (PySem.F.args_tuple_iterator_next_1 _)))
  show wpAny _ _ (field (.ref it) 0 >>= _) _ _ s
  refine wpAny_bind (wpAny_field hoi hdi (x := .ref t) rfl ?_)
  show wpAny _ _ (if (Value.ref t == Value.none) = true then _ else _) _ _ s
  rw [if_neg (show ¬ ((Value.ref t == Value.none) = true) from Bool.false_ne_true)]
  show wpAny _ _ (field (.ref it) 1 >>= _) _ _ s
  refine wpAny_bind (wpAny_field hoi hdi (x := .int i 0) rfl ?_)
  show wpAny _ _ (seqItems? (.ref t) >>= _) _ _ s
  refine wpAny_bind (wpAny_seqItems hot hdt ?_)
  simp only [Int.toNat_natCast, hx]
  refine wpAny_bind (wpAny_rule (wpAny_bind (wpAny_setField hoi hdi (by simp) ?_)))
  show wpAny _ _ (newExc (.type "StopIteration") [] >>= _) _ _ _
  refine wpAny_bind ?_
  simp only [newExc, newTuple]
  refine wpAny_bind (wpAny_newObj_type ?_ (by size_fits))
  refine wpAny_bind (m := firstArgMember _ _) (wpAny_of_eq (a := Value.none) (by first | rfl | (simp only [firstArgMember]; rfl)) ?_)
  refine wpAny_newObj_type ?_ (by size_fits)
  simp only [raiseNew]
  refine wpAny_bind (wpAny_handled ?_)
  first | rw [show A.in1.handled = none from hh] | rw [hh]
  refine wpAny_bind (wpAny_pure (wpAny_throw ?_))
  exact hE _ _ (((Heap.SameBut.update ..).extBut.push _).push _) ⟨_, Heap.get?_push_size _ rfl, rfl⟩

/-- a zip of two tuples stands, fresh or with its tuple handed out -/
structure ZipT (h : Heap) (z TI TO i1 i2 t1 t2 : Addr) (k : Nat) (f0 : Value) : Prop where
  z : IsZip h z TI TO f0
  TI : IsPair h TI (.ref i1) (.ref i2)
  TO : ∃ a b, IsPair h TO a b
  i1 : h.IsTupleIter i1 t1 k
  i2 : h.IsTupleIter i2 t2 k
theorem zipT_item {z TI TO i1 i2 t1 t2 : Addr} {k : Nat} {xs ys : Array Value} {x y : Value} {Q : Option Value → Shared → Prop} (D : ZipApart z TI TO i1 i2 t1 t2)
    (Z : ZipT s.heap z TI TO i1 i2 t1 t2 k .none) (ht1 : s.heap.IsTuple t1 xs) (ht2 : s.heap.IsTuple t2 ys) (hx : xs[k]? = some x) (hy : ys[k]? = some y)
    (hQ : ∀ h', ZipT h' z TI TO i1 i2 t1 t2 (k + 1) (rawInt s.heap.objs.size) → h'.get? s.heap.objs.size = some (tup [x, y]) →
      (∀ c o, c ≠ z → c ≠ TO → c ≠ i1 → c ≠ i2 → s.heap.get? c = some o → h'.get? c = some o) → Q (some (.ref s.heap.objs.size)) { s with heap := h' }) :
    wpAny (model prog w) A (pyNext (.ref z)) Q E s := by
  obtain ⟨hz, hTI, ⟨a, b, hTO⟩, h1, h2⟩ := Z
  have hT : s.TypeIs (.ref z) "zip" := ⟨_, hz, rfl⟩
  unfold pyNext
  refine wpAny_bind (wpAny_attempt (wpAny_callSpecial?_slot (name := Str.ofString "__next__") hT PySem.F.slot_zip_next (wpAny_call_entry PySem.F.slot_zip_next hT PySem.F.entry_zip_next ?_ (PySem.F.args_zip_next_1 _))))
  show wpAny _ _ (field (.ref z) 2 >>= _) _ _ _
  refine wpAny_bind (wpAny_field hz rfl (x := .bool false) rfl ?_)
  show wpAny _ _ (field (.ref z) 3 >>= _) _ _ _
  refine wpAny_bind (wpAny_field hz rfl (x := .ref TI) rfl ?_)
  refine wpAny_bind (wpAny_seqItems hTI rfl ?_)
  show wpAny _ _ (Builtin.SmallTypes.ownedTupleIsFree (.ref z) >>= _) _ _ _
  refine wpAny_bind ?_
  unfold Builtin.SmallTypes.ownedTupleIsFree
  refine wpAny_bind (wpAny_field hz rfl (x := .none) rfl (wpAny_pure ?_))
  simp only [if_true]
  refine wpAny_bind (wpAny_rule ?_)
  refine wpAny_bind (wpAny_field hz rfl (x := .ref TO) rfl ?_)
  refine wpAny_bind (wpAny_setField_rec hz (by simp) fun g₁ z₁ s₁ => ?_)
  replace z₁ : IsZip g₁ z TI TO .ellipsis := z₁
  refine wpAny_bind ?_
  simp only [List.zipIdx_cons, List.zipIdx_nil, List.forIn_cons, List.forIn_nil]
  refine wpAny_bind (wpAny_bind (wpAny_onRaise ?_))
  show wpAny _ _ (Builtin.SmallTypes.nextOf (.ref i1) >>= _) _ _ _
  refine wpAny_bind (nextT_item (h1.extBut s₁.extBut D.i1z) (ht1.extBut s₁.extBut D.l1z) hx fun g₂ h1₂ s₂ => wpAny_pure ?_)
  have hTO₂ : IsPair g₂ TO a b := s₂.extBut _ _ D.TOi1 (s₁.extBut _ _ D.TOz hTO)
  refine wpAny_bind (wpAny_seqItems hTO₂ rfl ?_)
  refine wpAny_bind (wpAny_updateSeq_pair hTO₂ fun g₃ hTO₃ s₃ => ?_)
  replace hTO₃ : IsPair g₃ TO x b := hTO₃
  refine wpAny_bind (wpAny_letGo (wpAny_pure ?_))
  refine wpAny_bind (wpAny_bind (wpAny_onRaise ?_))
  show wpAny _ _ (Builtin.SmallTypes.nextOf (.ref i2) >>= _) _ _ _
  refine wpAny_bind (nextT_item (((h2.extBut s₁.extBut D.i2z).extBut s₂.extBut D.i12.symm).extBut s₃.extBut D.TOi2.symm)
    (((ht2.extBut s₁.extBut D.l2z).extBut s₂.extBut D.l2i1).extBut s₃.extBut D.l2TO) hy fun g₄ h2₄ s₄ => wpAny_pure ?_)
  have hTO₄ : IsPair g₄ TO x b := s₄.extBut _ _ D.TOi2 hTO₃
  refine wpAny_bind (wpAny_seqItems hTO₄ rfl ?_)
  refine wpAny_bind (wpAny_updateSeq_pair hTO₄ fun g₅ hTO₅ s₅ => ?_)
  replace hTO₅ : IsPair g₅ TO x y := hTO₅
  refine wpAny_bind (wpAny_letGo (wpAny_pure (wpAny_pure ?_)))
  refine wpAny_bind (wpAny_seqItems hTO₅ rfl ?_)
  refine wpAny_bind (wpAny_newTuple ?_)
  have hsz : g₅.objs.size = s.heap.objs.size := by rw [s₅.1, s₄.1, s₃.1, s₂.1, s₁.1]
  have z₅ : IsZip g₅ z TI TO .ellipsis := s₅.extBut _ _ D.TOz.symm (s₄.extBut _ _ D.i2z.symm (s₃.extBut _ _ D.TOz.symm (s₂.extBut _ _ D.i1z.symm z₁)))
  have k₅ : ∀ c o, c ≠ z → c ≠ TO → c ≠ i1 → c ≠ i2 → s.heap.get? c = some o → g₅.get? c = some o := fun c o c1 c2 c3 c4 e =>
    s₅.extBut _ _ c2 (s₄.extBut _ _ c4 (s₃.extBut _ _ c2 (s₂.extBut _ _ c3 (s₁.extBut _ _ c1 e))))
  have h1₅ : g₅.IsTupleIter i1 t1 (k + 1) := ((h1₂.extBut s₃.extBut D.TOi1.symm).extBut s₄.extBut D.i12).extBut s₅.extBut D.TOi1.symm
  have h2₅ : g₅.IsTupleIter i2 t2 (k + 1) := h2₄.extBut s₅.extBut D.TOi2.symm
  have zlt : z < g₅.objs.size := Heap.lt_size z₅
  show wpAny _ _ (Builtin.SmallTypes.ownedTupleHandOut (.ref z) (.ref g₅.objs.size) >>= _) _ _ _
  refine wpAny_bind ?_
  unfold Builtin.SmallTypes.ownedTupleHandOut
  have z₆ : IsZip (g₅.push { cls := .type "tuple", data := .seq #[x, y] }) z TI TO .ellipsis := Heap.get?_push_of_some _ z₅
  refine wpAny_bind (wpAny_setField_rec z₆ (by simp) fun g₇ z₇ s₇ => ?_)
  replace z₇ : IsZip g₇ z TI TO (rawInt g₅.objs.size) := z₇
  refine wpAny_setField_rec z₇ (by simp) fun g₈ z₈ s₈ => ?_
  replace z₈ : IsZip g₈ z TI TO (rawInt g₅.objs.size) := z₈
  have up : ∀ c o, c ≠ z → g₅.get? c = some o → g₈.get? c = some o := fun c o c1 e => s₈.extBut _ _ c1 (s₇.extBut _ _ c1 (Heap.get?_push_of_some _ e))
  have hT₈ : IsPair g₈ g₅.objs.size x y := s₈.extBut _ _ (Nat.ne_of_gt zlt) (s₇.extBut _ _ (Nat.ne_of_gt zlt) (Heap.get?_push_size _ rfl))
  rw [hsz] at z₈ hT₈
  refine wpAny_pure ⟨_, rfl, ?_⟩
  refine wpAny_pure ?_
  show Q (some (.ref g₅.objs.size)) _
  rw [hsz]
  exact hQ g₈ ⟨z₈, up _ _ D.TIz (k₅ _ _ D.TIz D.TITO D.TIi1 D.TIi2 hTI), ⟨_, _, up _ _ D.TOz hTO₅⟩, h1₅.extBut (fun c o c1 e => up c o c1 e) D.i1z, h2₅.extBut (fun c o c1 e => up c o c1 e) D.i2z⟩ hT₈ fun c o c1 c2 c3 c4 e => up c o c1 (k₅ c o c1 c2 c3 c4 e)
theorem zipT_free_end {z TI TO i1 i2 t1 t2 : Addr} {k : Nat} {xs : Array Value} {Q : Option Value → Shared → Prop} (hh : A.handled = none) (D : ZipApart z TI TO i1 i2 t1 t2)
    (Z : ZipT s.heap z TI TO i1 i2 t1 t2 k .none) (ht1 : s.heap.IsTuple t1 xs) (hx : xs[k]? = none)
    (hQ : ∀ h', (∀ c o, c ≠ z → c ≠ TO → c ≠ i1 → c ≠ i2 → s.heap.get? c = some o → h'.get? c = some o) → Q none { s with heap := h' }) :
    wpAny (model prog w) A (pyNext (.ref z)) Q E s := by
  obtain ⟨hz, hTI, ⟨a, b, hTO⟩, h1, h2⟩ := Z
  have hT : s.TypeIs (.ref z) "zip" := ⟨_, hz, rfl⟩
  unfold pyNext
  refine wpAny_bind (wpAny_attempt (wpAny_callSpecial?_slot (name := Str.ofString "__next__") hT PySem.F.slot_zip_next (wpAny_call_entry PySem.F.slot_zip_next hT PySem.F.entry_zip_next ?_ (PySem.F.args_zip_next_1 _))))
  show wpAny _ _ (field (.ref z) 2 >>= _) _ _ _
  refine wpAny_bind (wpAny_field hz rfl (x := .bool false) rfl ?_)
  show wpAny _ _ (field (.ref z) 3 >>= _) _ _ _
  refine wpAny_bind (wpAny_field hz rfl (x := .ref TI) rfl ?_)
  refine wpAny_bind (wpAny_seqItems hTI rfl ?_)
  show wpAny _ _ (Builtin.SmallTypes.ownedTupleIsFree (.ref z) >>= _) _ _ _
  refine wpAny_bind ?_
  unfold Builtin.SmallTypes.ownedTupleIsFree
  refine wpAny_bind (wpAny_field hz rfl (x := .none) rfl (wpAny_pure ?_))
  simp only [if_true]
  refine wpAny_bind (wpAny_rule ?_)
  refine wpAny_bind (wpAny_field hz rfl (x := .ref TO) rfl ?_)
  refine wpAny_bind (wpAny_setField_rec hz (by simp) fun g₁ z₁ s₁ => ?_)
  replace z₁ : IsZip g₁ z TI TO .ellipsis := z₁
  refine wpAny_bind ?_
  simp only [List.zipIdx_cons, List.zipIdx_nil, List.forIn_cons, List.forIn_nil]
  refine wpAny_bind (wpAny_bind (wpAny_onRaise ?_))
  show wpAny _ _ (Builtin.SmallTypes.nextOf (.ref i1) >>= _) _ _ _
  refine wpAny_bind (nextT_end (by first | exact hh | rfl) (h1.extBut s₁.extBut D.i1z) (ht1.extBut s₁.extBut D.l1z) hx fun g₂ e s₂ he => ?_)
  obtain ⟨oe, hoe, hce⟩ := he
  have z₂ : IsZip g₂ z TI TO .ellipsis := s₂ _ _ D.i1z.symm z₁
  have hez : e ≠ z := fun q => by subst q; rw [z₂] at hoe; cases hoe; simp at hce
  refine wpAny_setField_rec z₂ (by simp) fun g₃ _ s₃ => ?_
  refine wpAny_bind (wpAny_isInstance (T := "StopIteration") (b := true) ⟨oe, s₃.extBut _ _ hez hoe, hce⟩ isSubtype_stop ?_)
  exact wpAny_pure (hQ _ fun c o c1 _ c3 _ x => s₃.extBut _ _ c1 (s₂ _ _ c3 (s₁.extBut _ _ c1 x)))

theorem zipT_held_end {z TI TO i1 i2 t1 t2 T : Addr} {oT : Obj} {k : Nat} {xs : Array Value} {Q : Option Value → Shared → Prop} (hh : A.handled = none) (D : ZipApart z TI TO i1 i2 t1 t2)
    (Z : ZipT s.heap z TI TO i1 i2 t1 t2 k (rawInt T)) (ht1 : s.heap.IsTuple t1 xs) (hx : xs[k]? = none) (hal : s.heap.get? T = some oT)
    (hQ : ∀ h', (∀ c o, c ≠ z → c ≠ TO → c ≠ i1 → c ≠ i2 → s.heap.get? c = some o → h'.get? c = some o) → Q none { s with heap := h' }) :
    wpAny (model prog w) A (pyNext (.ref z)) Q E s := by
  obtain ⟨hz, hTI, ⟨a, b, hTO⟩, h1, h2⟩ := Z
  have hT : s.TypeIs (.ref z) "zip" := ⟨_, hz, rfl⟩
  unfold pyNext
  refine wpAny_bind (wpAny_attempt (wpAny_callSpecial?_slot (name := Str.ofString "__next__") hT PySem.F.slot_zip_next (wpAny_call_entry PySem.F.slot_zip_next hT PySem.F.entry_zip_next ?_ (PySem.F.args_zip_next_1 _))))
  show wpAny _ _ (field (.ref z) 2 >>= _) _ _ _
  refine wpAny_bind (wpAny_field hz rfl (x := .bool false) rfl ?_)
  show wpAny _ _ (field (.ref z) 3 >>= _) _ _ _
  refine wpAny_bind (wpAny_field hz rfl (x := .ref TI) rfl ?_)
  refine wpAny_bind (wpAny_seqItems hTI rfl ?_)
  show wpAny _ _ (Builtin.SmallTypes.ownedTupleIsFree (.ref z) >>= _) _ _ _
  refine wpAny_bind ?_
  unfold Builtin.SmallTypes.ownedTupleIsFree
  refine wpAny_bind (wpAny_field hz rfl (x := rawInt T) rfl ?_)
  show wpAny _ _ (loadIfAlive (Int.toNat (T : Int)) >>= _) _ _ _
  refine wpAny_bind (wpAny_alive ?_)
  rw [Int.toNat_natCast, hal]
  show wpAny _ _ (field (.ref z) 1 >>= _) _ _ _
  refine wpAny_bind (wpAny_field hz rfl (x := .bool false) rfl ?_)
  rw [if_pos (by decide)]
  refine wpAny_bind (wpAny_setField_rec hz (by simp) fun g₁ z₁ s₁ => wpAny_pure ?_)
  simp only [Bool.false_eq_true, if_false]
  refine wpAny_bind ?_
  simp only [List.forIn_toArray, List.forIn_cons]
  refine wpAny_bind (wpAny_bind (wpAny_holding ?_))
  show wpAny _ _ (Builtin.SmallTypes.nextOf (.ref i1) >>= _) _ _ _
  refine wpAny_bind (nextT_end (by first | exact hh | rfl) (h1.extBut s₁.extBut D.i1z) (ht1.extBut s₁.extBut D.l1z) hx fun g₂ e s₂ he => ?_)
  obtain ⟨oe, hoe, hce⟩ := he
  refine wpAny_bind (wpAny_isInstance (T := "StopIteration") (b := true) ⟨oe, hoe, hce⟩ isSubtype_stop ?_)
  exact wpAny_pure (hQ _ fun c o c1 _ c3 _ x => s₂ _ _ c3 (s₁.extBut _ _ c1 x))
end
noncomputable abbrev zt1 (h : Heap) (a : Addr) : Heap := h.push { cls := .type "tuple_iterator", data := .fields #[.ref a, .int 0 0] }
noncomputable abbrev zt2 (h : Heap) (a b : Addr) : Heap := (zt1 h a).push { cls := .type "tuple_iterator", data := .fields #[.ref b, .int 0 0] }
noncomputable abbrev zt3 (h : Heap) (a b : Addr) : Heap := (zt2 h a b).push { cls := .type "tuple", data := .seq #[.ref h.objs.size, .ref (zt1 h a).objs.size] }
noncomputable abbrev zt4 (h : Heap) (a b : Addr) : Heap := (zt3 h a b).push { cls := .type "tuple", data := .seq #[.none, .none] }
noncomputable abbrev zt5 (h : Heap) (a b : Addr) : Heap := (zt4 h a b).push { cls := .type "zip", data := .fields #[.none, .bool false, .bool false, .ref (zt2 h a b).objs.size, .ref (zt3 h a b).objs.size] }
theorem meets_zipT (a b : Addr) (xs ys : Array Value) :
    Meets (Builtin.«zip.__new__» ⟨[.type "zip", .ref a, .ref b], []⟩) (fun _ R s => s.heap.IsTuple a xs ∧ s.heap.IsTuple b ys ∧
      R (.ok (.ret (.ref (zt4 s.heap a b).objs.size))) { s with heap := zt5 s.heap a b }) :=
  .of_wp fun prog w A R s h => by
    obtain ⟨hp, g, d, tk, os⟩ := s; obtain ⟨ha, hb, h⟩ := h
    have hsub := sub_zip
    have hA : Heap.IsTuple (Shared.heap ⟨hp, g, d, tk, os⟩) a xs := ha
    have hB : Heap.IsTuple (Shared.heap ⟨hp.push { cls := .type "tuple_iterator", data := .fields #[.ref a, .int 0 0] }, g, d, tk, os⟩) b ys := Heap.IsTuple.push hb _
    wp_walk using wpAny_pyIter_tuple hA, wpAny_pyIter_tuple hB
    exact ⟨_, rfl, h⟩
section
variable {prog : Program} {w : World} {A : Around} {E : Value → Shared → Prop} {s : Shared}
theorem zipT_call {a b : Addr} {xs ys : Array Value} {Q : Value → Shared → Prop} (ha : s.heap.IsTuple a xs) (hb : s.heap.IsTuple b ys)
    (h : ∀ h', ZipT h' (s.heap.objs.size + 4) (s.heap.objs.size + 2) (s.heap.objs.size + 3) s.heap.objs.size (s.heap.objs.size + 1) a b 0 .none → h'.objs.size = s.heap.objs.size + 5 →
      (∀ c o, s.heap.get? c = some o → h'.get? c = some o) → Q (.ref (s.heap.objs.size + 4)) { s with heap := h' }) :
    wpAny (model prog w) A (call (.type "zip") [.ref a, .ref b]) Q E s := by
  refine callType_new PySem.F.called_zip (by decide) (PySem.F.typeCall_zip_2 _ _) (PySem.F.newCall_zip_2 _ _) (fun obj => PySem.F.args_object_init_3 obj _ _) PySem.F.entry_zip_new
    (meets_zipT a b xs ys) ⟨ha, hb, ?_⟩
  have z1 : (zt1 s.heap a).objs.size = s.heap.objs.size + 1 := Heap.size_push ..
  have z2 : (zt2 s.heap a b).objs.size = s.heap.objs.size + 2 := by rw [Heap.size_push, z1]
  have z3 : (zt3 s.heap a b).objs.size = s.heap.objs.size + 3 := by rw [Heap.size_push, z2]
  have z4 : (zt4 s.heap a b).objs.size = s.heap.objs.size + 4 := by rw [Heap.size_push, z3]
  have z5 : (zt5 s.heap a b).objs.size = s.heap.objs.size + 5 := by rw [Heap.size_push, z4]
  have g5 : (zt5 s.heap a b).get? (zt4 s.heap a b).objs.size = some _ := Heap.get?_push_size _ rfl
  have g4 : (zt5 s.heap a b).get? (zt3 s.heap a b).objs.size = some _ := Heap.get?_push_of_some _ (Heap.get?_push_size _ rfl)
  have g3 : (zt5 s.heap a b).get? (zt2 s.heap a b).objs.size = some _ := Heap.get?_push_of_some _ (Heap.get?_push_of_some _ (Heap.get?_push_size _ rfl))
  have g2 : (zt5 s.heap a b).get? (zt1 s.heap a).objs.size = some _ := Heap.get?_push_of_some _ (Heap.get?_push_of_some _ (Heap.get?_push_of_some _ (Heap.get?_push_size _ rfl)))
  have g1 : (zt5 s.heap a b).get? s.heap.objs.size = some _ := Heap.get?_push_of_some _ (Heap.get?_push_of_some _ (Heap.get?_push_of_some _ (Heap.get?_push_of_some _ (Heap.get?_push_size _ rfl))))
  show _ ∧ _
  rw [z2, z3, z4] at g5
  rw [z1, z2] at g3
  rw [z3] at g4
  rw [z1] at g2
  rw [z4]
  exact ⟨⟨_, g5, rfl⟩, h _ ⟨g5, g3, ⟨_, _, g4⟩, ⟨_, g1, rfl, rfl⟩, ⟨_, g2, rfl, rfl⟩⟩ z5 fun c o x =>
    Heap.get?_push_of_some _ (Heap.get?_push_of_some _ (Heap.get?_push_of_some _ (Heap.get?_push_of_some _ (Heap.get?_push_of_some _ x))))⟩
theorem zip_no_len : typeLookup (.type "zip") "__len__" = pure none := am_miss_of_fast (by decide +kernel)
theorem zip_no_hint : typeLookup (.type "zip") "__length_hint__" = pure none := am_miss_of_fast (by decide +kernel)

/-- list(z), the loop left to the caller -/
theorem listZ {z TI TO : Addr} {f0 : Value} {Q : Value → Shared → Prop} (hz : IsZip s.heap z TI TO f0)
    (h : ∀ h' c tk, h'.objs.size = s.heap.objs.size + 1 → h'.get? s.heap.objs.size = some { cls := .type "list", dict := none, data := .seq #[] c, slots := #[] } → (∀ b o, s.heap.get? b = some o → h'.get? b = some o) →
      codeAny (model prog w) A.in1 (.builtin "list.extend.loop" ⟨[.ref s.heap.objs.size, .ref z, .none], []⟩) (wants (fun r s₂ => r = .none ∧ Q (.ref s.heap.objs.size) s₂) E) { s with heap := h', toks := tk }) :
    wpAny (model prog w) A (call (.type "list") [.ref z]) Q E s := by
  refine callType_codes (Q₁ := fun obj s₁ => obj = .ref s.heap.objs.size ∧ s₁ = { s with heap := s.heap.push { cls := .type "list", data := .seq #[] } }) PySem.F.called_list (PySem.F.typeCall_list_1 _) PySem.F.entry_list_init
    (code_list_new _ ⟨rfl, rfl⟩) fun obj s₁ h₁ => ?_
  obtain ⟨rfl, rfl⟩ := h₁
  have hS : (s.heap.push { cls := .type "list", data := .seq #[] }).get? s.heap.objs.size = some { cls := .type "list", data := .seq #[] } := Heap.get?_push_size _ rfl
  have hne : s.heap.objs.size ≠ z := Nat.ne_of_gt (Heap.lt_size hz)
  have hz₁ : IsZip (s.heap.push { cls := .type "list", data := .seq #[] }) z TI TO f0 := Heap.get?_push_of_some _ hz
  refine ⟨⟨_, hS, rfl⟩, PySem.F.args_list_init_2 _ _, ?_⟩
  show wpAny _ _ (do let old ← Builtin.List.listItems (.ref s.heap.objs.size); Builtin.List.listUpdate (.ref s.heap.objs.size) (fun _ => #[]); letGo old.toList.reverse; Builtin.List.listExtendWith (.ref s.heap.objs.size) (.ref z) .none) _ _ _
  refine wpAny_bind ?_
  unfold Builtin.List.listItems
  refine wpAny_bind (wpAny_seqItems hS rfl (wpAny_pure ?_))
  show wpAny _ _ (updateSeq s.heap.objs.size (fun _ => #[]) >>= fun _ => letGo (#[] : Array Value).toList.reverse >>= fun _ => Builtin.List.listExtendWith (.ref s.heap.objs.size) (.ref z) .none) _ _ _
  refine wpAny_bind (wpAny_updateSeq hS rfl ?_)
  have hS₂ := Heap.get?_update_self (Obj.mapSeq (fun _ => (#[] : Array Value))) hS rfl
  have oth : ∀ b o, b ≠ s.heap.objs.size → (s.heap.push { cls := .type "list", data := .seq #[] }).get? b = some o → ((s.heap.push { cls := .type "list", data := .seq #[] }).update s.heap.objs.size (Obj.mapSeq (fun _ => (#[] : Array Value)))).get? b = some o :=
    fun b o hb e => (Heap.get?_update_other _ _ (Ne.symm hb)).trans e
  have hz₂ := oth _ _ hne.symm hz₁
  have sz₂ : ((s.heap.push { cls := .type "list", data := .seq #[] }).update s.heap.objs.size (Obj.mapSeq (fun _ => (#[] : Array Value)))).objs.size = s.heap.objs.size + 1 := by rw [Heap.size_update, Heap.size_push]
  refine wpAny_bind (wpAny_letGo ?_)
  generalize (s.heap.push { cls := .type "list", data := .seq #[] }).update s.heap.objs.size (Obj.mapSeq (fun _ => (#[] : Array Value))) = g at hS₂ oth hz₂ sz₂ ⊢
  have hT : Shared.TypeIs { s with heap := g } (.ref z) "zip" := ⟨_, hz₂, rfl⟩
  unfold Builtin.List.listExtendWith
  refine wpAny_bind (wpAny_typeOf hT ?_)
  have h1 : Builtin.List.listSameRef (.ref s.heap.objs.size) (.ref z) = false := by simp [Builtin.List.listSameRef, hne]
  have h2 : (Value.type "zip" == Value.type "list") = false := by decide
  have h3 : (Value.type "zip" == Value.type "tuple") = false := by decide
  simp only [h1, h2, h3, Bool.or_false, Bool.false_eq_true, if_false]
  refine wpAny_bind (wpAny_pyIter_zip hz₂ ?_)
  refine wpAny_bind (wpAny_holding ?_)
  unfold Builtin.List.listLengthHint
  refine wpAny_bind (wpAny_specialOf hT zip_no_len ?_)
  show wpAny _ _ (specialOf (Value.ref z) (Str.ofString "__length_hint__") >>= _) _ _ _
  refine wpAny_bind (wpAny_specialOf hT zip_no_hint ?_)
  refine wpAny_pure ?_
  show wpAny _ _ (rule "list.extend.makes-room" >>= fun _ => Builtin.List.listTouch (.ref s.heap.objs.size) >>= fun _ =>
    again (.builtin "list.extend.loop" ⟨[.ref s.heap.objs.size, .ref z, .none], []⟩)) _ _ _
  refine wpAny_bind (wpAny_rule ?_)
  refine wpAny_bind ?_
  show wpAny _ _ (updateSeq s.heap.objs.size (·.push .none) >>= fun _ => updateSeq s.heap.objs.size (·.pop)) _ _ _
  refine wpAny_bind (wpAny_updateSeq hS₂ rfl ?_)
  have hS₃ := Heap.get?_update_self (Obj.mapSeq (·.push Value.none)) hS₂ rfl
  refine wpAny_updateSeq (hz := by seq_fits) hS₃ rfl ?_
  have hS₄ := Heap.get?_update_self (Obj.mapSeq (·.pop)) hS₃ rfl
  refine wpAny_pure ⟨plainId_quiet PySem.F.plain_extend_loop _, h _ _ _ ?_ hS₄ fun b o e => ?_⟩
  · rw [Heap.size_update, Heap.size_update, sz₂]
  · have hb : b ≠ s.heap.objs.size := Nat.ne_of_lt (Heap.lt_size e)
    exact (Heap.get?_update_other _ _ (Ne.symm hb)).trans ((Heap.get?_update_other _ _ (Ne.symm hb)).trans (oth _ _ hb (Heap.get?_push_of_some _ e)))

/-- a zip of two tuples stands apart from base and ledger -/
noncomputable def ZipFact (h₀ : Heap) (L : Addr) (news : Led) (h : Heap) (a b z : Addr) : Prop :=
  ∃ TI TO i1 i2, ZipApart z TI TO i1 i2 a b ∧ ZipT h z TI TO i1 i2 a b 0 .none ∧ ∀ c, ((∃ o, h₀.get? c = some o) ∨ (∃ o, (c, o) ∈ news) ∨ c = L) → @Ne Nat c z ∧ @Ne Nat c TO ∧ @Ne Nat c i1 ∧ @Ne Nat c i2
theorem zipN {h₀ : Heap} {L : Addr} {m : Str → Option Value} {news : Led} {a b : Addr} {xs ys : Array Value} {Q : Value → Shared → Prop} (F : Fr h₀ L s.heap m) (N : News h₀ L s.heap news) (ha : s.heap.IsTuple a xs) (hb : s.heap.IsTuple b ys)
    (h : ∀ z h', Fr h₀ L h' m → News h₀ L h' news → ZipFact h₀ L news h' a b z → h'.IsTuple a xs → h'.IsTuple b ys → Q (.ref z) { s with heap := h' }) :
    wpAny (model prog w) A (call (.type "zip") [.ref a, .ref b]) Q E s := by
  have la : a < s.heap.objs.size := by obtain ⟨_, e, _⟩ := ha; exact Heap.lt_size e
  have lb : b < s.heap.objs.size := by obtain ⟨_, e, _⟩ := hb; exact Heap.lt_size e
  refine zipT_call ha hb fun h' hz _ hk => h _ h' (F.keeps hk) (N.grown hk) ⟨_, _, _, _, zipApart_new la lb, hz, fun c hc => ?_⟩ (let ⟨o, e, r⟩ := ha; ⟨o, hk _ _ e, r⟩) (let ⟨o, e, r⟩ := hb; ⟨o, hk _ _ e, r⟩)
  have hlt : @LT.lt Nat _ c s.heap.objs.size := by
    rcases hc with ⟨o, e⟩ | ⟨o, e⟩ | rfl
    · exact Heap.lt_size (F.keep _ _ e)
    · exact Heap.lt_size (N _ e).1
    · exact F.ns.lt
  refine ⟨?_, ?_, ?_, ?_⟩ <;> (intro q; subst q; exact absurd hlt (by first | exact Nat.lt_irrefl _ | exact Nat.not_lt.mpr (Nat.le_add_right _ _)))
theorem zipKeep {h₀ h h' : Heap} {L z TO i1 i2 : Addr} {m : Str → Option Value} {news : Led} (F : Fr h₀ L h m) (N : News h₀ L h news) (ap : ∀ c, ((∃ o, h₀.get? c = some o) ∨ (∃ o, (c, o) ∈ news) ∨ c = L) → @Ne Nat c z ∧ @Ne Nat c TO ∧ @Ne Nat c i1 ∧ @Ne Nat c i2)
    (hk : ∀ c o, c ≠ z → c ≠ TO → c ≠ i1 → c ≠ i2 → h.get? c = some o → h'.get? c = some o) : Fr h₀ L h' m ∧ News h₀ L h' news := by
  refine ⟨⟨F.ns.at' fun o e => ?_, fun b o e => ?_, F.above⟩, fun p hp => ⟨?_, (N p hp).2⟩⟩
  · obtain ⟨q1, q2, q3, q4⟩ := ap L (.inr (.inr rfl))
    exact hk _ _ q1 q2 q3 q4 e
  · obtain ⟨q1, q2, q3, q4⟩ := ap b (.inl ⟨o, e⟩)
    exact hk _ _ q1 q2 q3 q4 (F.keep _ _ e)
  · obtain ⟨q1, q2, q3, q4⟩ := ap p.1 (.inr (.inl ⟨p.2, hp⟩))
    exact hk _ _ q1 q2 q3 q4 (N p hp).1
theorem ZipT.keep {h h' : Heap} {z TI TO i1 i2 t1 t2 : Addr} {k : Nat} {f0 : Value} (Z : ZipT h z TI TO i1 i2 t1 t2 k f0) (hk : ∀ b o, h.get? b = some o → h'.get? b = some o) : ZipT h' z TI TO i1 i2 t1 t2 k f0 :=
  ⟨hk _ _ Z.z, hk _ _ Z.TI, let ⟨a, b, e⟩ := Z.TO; ⟨a, b, hk _ _ e⟩, let ⟨o, e, r⟩ := Z.i1; ⟨o, hk _ _ e, r⟩, let ⟨o, e, r⟩ := Z.i2; ⟨o, hk _ _ e, r⟩⟩
theorem tupKeep {h h' : Heap} {t : Addr} {xs : Array Value} (x : h.IsTuple t xs) (hk : ∀ b o, h.get? b = some o → h'.get? b = some o) : h'.IsTuple t xs := let ⟨o, e, r⟩ := x; ⟨o, hk _ _ e, r⟩
/-- list(zip((), ())) -/
theorem listZip0 {h₀ : Heap} {L : Addr} {m : Str → Option Value} {news : Led} {a b z : Addr} {Q : Value → Shared → Prop} (hh : A.handled = none) (F : Fr h₀ L s.heap m) (N : News h₀ L s.heap news) (Z : ZipFact h₀ L news s.heap a b z) (ha : s.heap.IsTuple a #[])
    (h : ∀ D c h' tk, Fr h₀ L h' m → News h₀ L h' ((D, W.listOf #[] c) :: news) → AllLt D news → Q (.ref D) { s with heap := h', toks := tk }) :
    wpAny (model prog w) A (call (.type "list") [.ref z]) Q E s := by
  obtain ⟨TI, TO, i1, i2, D, ZT, ap⟩ := Z
  refine listZ ZT.z fun g c tk hsz hS hk => ?_
  have hlt : ∀ x o, s.heap.get? x = some o → @Ne Nat x s.heap.objs.size := fun x o e => Nat.ne_of_lt (Heap.lt_size e)
  have hSz : s.heap.objs.size ≠ z := fun q => hlt z _ ZT.z q.symm
  have hSTO : s.heap.objs.size ≠ TO := fun q => by obtain ⟨x, y, e⟩ := ZT.TO; exact hlt TO _ e q.symm
  have hS1 : s.heap.objs.size ≠ i1 := fun q => by obtain ⟨o, e, _⟩ := ZT.i1; exact hlt i1 _ e q.symm
  have hS2 : s.heap.objs.size ≠ i2 := fun q => by obtain ⟨o, e, _⟩ := ZT.i2; exact hlt i2 _ e q.symm
  refine codeAny_builtin PySem.F.entry_extend_loop ?_
  rw [Around.under_plainId PySem.F.plain_extend_loop _]
  show wpAny _ _ (pyNext (.ref z) >>= _) _ _ _
  refine wpAny_bind (zipT_free_end hh D (ZT.keep hk) (tupKeep ha hk) (by rfl) fun g₂ hk₂ => ?_)
  refine wpAny_pure ⟨rfl, ?_⟩
  obtain ⟨F₂, N₂⟩ := zipKeep (F.keeps hk) (N.grown hk) ap hk₂
  refine h _ c g₂ tk F₂ (fun p hp => ?_) (allLt_of fun p hp => Heap.lt_size (N p hp).1)
  rcases List.mem_cons.mp hp with rfl | hp
  · exact ⟨hk₂ _ _ hSz hSTO hS1 hS2 hS, Nat.ne_of_gt F.ns.lt, next_is_new F⟩
  · exact N₂ _ hp
/-- list(zip((x,), (y,))) -/
theorem listZip1 {h₀ : Heap} {L : Addr} {m : Str → Option Value} {news : Led} {a b z : Addr} {x y : Value} {Q : Value → Shared → Prop} (hh : A.handled = none) (F : Fr h₀ L s.heap m) (N : News h₀ L s.heap news) (Z : ZipFact h₀ L news s.heap a b z) (ha : s.heap.IsTuple a #[x]) (hb : s.heap.IsTuple b #[y])
    (h : ∀ D T c h' tk, Fr h₀ L h' m → News h₀ L h' ((D, W.listOf #[.ref T] c) :: (T, tup [x, y]) :: news) → @LT.lt Nat _ D T ∧ AllLt T news → AllLt D news → Q (.ref D) { s with heap := h', toks := tk }) :
    wpAny (model prog w) A (call (.type "list") [.ref z]) Q E s := by
  obtain ⟨TI, TO, i1, i2, D, ZT, ap⟩ := Z
  refine listZ ZT.z fun g c tk hsz hS hk => ?_
  have hlt : ∀ x o, s.heap.get? x = some o → @Ne Nat x s.heap.objs.size := fun x o e => Nat.ne_of_lt (Heap.lt_size e)
  have hSz : s.heap.objs.size ≠ z := fun q => hlt z _ ZT.z q.symm
  have hSTO : s.heap.objs.size ≠ TO := fun q => by obtain ⟨x, y, e⟩ := ZT.TO; exact hlt TO _ e q.symm
  have hS1 : s.heap.objs.size ≠ i1 := fun q => by obtain ⟨o, e, _⟩ := ZT.i1; exact hlt i1 _ e q.symm
  have hS2 : s.heap.objs.size ≠ i2 := fun q => by obtain ⟨o, e, _⟩ := ZT.i2; exact hlt i2 _ e q.symm
  have hSa : a ≠ s.heap.objs.size := by obtain ⟨o, e, _⟩ := ha; exact hlt _ _ e
  refine codeAny_builtin PySem.F.entry_extend_loop ?_
  rw [Around.under_plainId PySem.F.plain_extend_loop _]
  show wpAny _ _ (pyNext (.ref z) >>= _) _ _ _
  refine wpAny_bind (zipT_item D (ZT.keep hk) (tupKeep ha hk) (tupKeep hb hk) (x := x) (y := y) (by rfl) (by rfl) fun g₂ Z₂ hT₂ hk₂ => ?_)
  dsimp only at Z₂ hT₂ hk₂ ⊢
  rw [hsz] at Z₂ hT₂
  obtain ⟨F₂, N₂⟩ := zipKeep (F.keeps hk) (N.grown hk) ap hk₂
  have hS₂ := hk₂ _ _ hSz hSTO hS1 hS2 hS
  have ha₂ : g₂.IsTuple a #[x] := by
    obtain ⟨o, e, r⟩ := ha
    exact ⟨o, hk₂ _ _ (by have := D.l1z; exact this) (D.l1TO) D.l1i1 D.l1i2 (hk _ _ e), r⟩
  show wpAny _ _ (updateSeq s.heap.objs.size (·.push (.ref g.objs.size)) >>= _) _ _ _
  rw [hsz]
  refine wpAny_bind (wpAny_updateSeq (hz := by seq_fits) hS₂ rfl (wpAny_pure ⟨plainId_quiet PySem.F.plain_extend_loop _, ?_⟩))
  have hS₃ := Heap.get?_update_self (Obj.mapSeq (·.push (Value.ref (s.heap.objs.size + 1)))) hS₂ rfl
  have oth : ∀ b o, b ≠ s.heap.objs.size → g₂.get? b = some o → (g₂.update s.heap.objs.size (Obj.mapSeq (·.push (Value.ref (s.heap.objs.size + 1))))).get? b = some o :=
    fun b o hb e => (Heap.get?_update_other _ _ (Ne.symm hb)).trans e
  generalize g₂.update s.heap.objs.size (Obj.mapSeq (·.push (Value.ref (s.heap.objs.size + 1)))) = g₃ at hS₃ oth ⊢
  have Z₃ : ZipT g₃ z TI TO i1 i2 a b 1 (rawInt ((s.heap.objs.size + 1 : Nat) : Int)) := by
    have zTI : TI ≠ s.heap.objs.size := hlt _ _ ZT.TI
    exact ⟨oth _ _ (Ne.symm hSz) Z₂.z, oth _ _ zTI Z₂.TI, let ⟨p, q, e⟩ := Z₂.TO; ⟨p, q, oth _ _ (Ne.symm hSTO) e⟩, let ⟨o, e, r⟩ := Z₂.i1; ⟨o, oth _ _ (Ne.symm hS1) e, r⟩, let ⟨o, e, r⟩ := Z₂.i2; ⟨o, oth _ _ (Ne.symm hS2) e, r⟩⟩
  have hTS : s.heap.objs.size + 1 ≠ s.heap.objs.size := Nat.succ_ne_self _
  have hT₃ := oth _ _ hTS hT₂
  refine codeAny_builtin PySem.F.entry_extend_loop ?_
  rw [Around.under_plainId PySem.F.plain_extend_loop _]
  show wpAny _ _ (pyNext (.ref z) >>= _) _ _ _
  refine wpAny_bind (zipT_held_end hh D Z₃ (let ⟨o, e, r⟩ := ha₂; ⟨o, oth _ _ hSa e, r⟩) (by rfl) hT₃ fun g₄ hk₄ => ?_)
  refine wpAny_pure ⟨rfl, ?_⟩
  have lN : ∀ p ∈ news, @LT.lt Nat _ p.1 s.heap.objs.size := fun p hp => Heap.lt_size (N p hp).1
  have F₃ : Fr h₀ L g₃ m := ⟨F₂.ns.at' fun o e => oth _ _ (Nat.ne_of_lt F.ns.lt) e, fun b o e => oth _ _ (hlt _ _ (F.keep _ _ e)) (F₂.keep _ _ e), F₂.above⟩
  have N₃ : News h₀ L g₃ news := fun p hp => ⟨oth _ _ (Nat.ne_of_lt (lN p hp)) (N₂ p hp).1, (N₂ p hp).2⟩
  obtain ⟨F₄, N₄⟩ := zipKeep F₃ N₃ ap hk₄
  have big : ∀ q o, s.heap.get? q = some o → @Ne Nat (s.heap.objs.size + 1) q := fun q o e h => by
    have := Heap.lt_size e
    rw [← h] at this
    exact absurd this (Nat.not_lt.mpr (Nat.le_succ _))
  have hT₀ : h₀.get? (s.heap.objs.size + 1) = none := by
    cases q : h₀.get? (s.heap.objs.size + 1) with
    | none => rfl
    | some o => exact absurd rfl (big _ _ (F.keep _ _ q))
  obtain ⟨c', e'⟩ : ∃ c', Obj.mapSeq (fun x => x.push (Value.ref (s.heap.objs.size + 1))) { cls := Value.type "list", data := Data.seq #[] c } = W.listOf #[.ref (s.heap.objs.size + 1)] c' := ⟨_, rfl⟩
  rw [e'] at hS₃
  refine h s.heap.objs.size (s.heap.objs.size + 1) c' g₄ _ F₄ (fun p hp => ?_) ⟨Nat.lt_succ_self _, allLt_of fun p hp => Nat.lt_succ_of_lt (lN p hp)⟩ (allLt_of lN)
  rcases List.mem_cons.mp hp with rfl | hp
  · exact ⟨hk₄ _ _ hSz hSTO hS1 hS2 hS₃, Nat.ne_of_gt F.ns.lt, next_is_new F⟩
  rcases List.mem_cons.mp hp with rfl | hp
  · refine ⟨hk₄ _ _ (big _ _ ZT.z) (by obtain ⟨p, q, e⟩ := ZT.TO; exact big _ _ e) (by obtain ⟨o, e, _⟩ := ZT.i1; exact big _ _ e) (by obtain ⟨o, e, _⟩ := ZT.i2; exact big _ _ e) hT₃, Nat.ne_of_gt (Nat.lt_succ_of_lt F.ns.lt), hT₀⟩
  · exact N₄ _ hp
end
end Mine
end

section
open PySem PySem.Spec PySem.W PyProof.Rows PySem.Calls PyProof.Rows.LCg
namespace Mine
section
variable {prog : Program} {w : World} {A : Around} {E : Value → Shared → Prop} {s : Shared}
theorem applied4 {sl : Addr} {u : Tok} {Q : Int × Int × Nat → Shared → Prop} (hs : s.heap.IsSliceOf sl .none (.int 4 u) .none) (h : Q (0, 1, 4) s) :
    wpAny (model prog w) A (Builtin.Slice.sliceApplied (.ref sl) (pure (5 : Int))) Q E s := by
  obtain ⟨os, hos, hcs, hds⟩ := id hs
  unfold Builtin.Slice.sliceApplied Builtin.Slice.sliceFields
  refine wpAny_bind (wpAny_bind (wpAny_field hos hds (x := .none) rfl (wpAny_bind (wpAny_field hos hds (x := .int 4 u) rfl (wpAny_bind (wpAny_field hos hds (x := .none) rfl (wpAny_pure ?_)))))))
  refine wpAny_bind (slicePart_none ?_)
  show wpAny _ _ (if ((1 : Int) == 0) = true then _ else _) _ _ s
  rw [if_neg (by decide)]
  refine wpAny_bind (slicePart_none (wpAny_bind (slicePart_int (wpAny_bind (wpAny_pure ?_)))))
  exact wpAny_pure h
theorem getItem4 {t sl : Addr} {a b c d e : Value} {u : Tok} {Q : Value → Shared → Prop} (ht : s.heap.IsTuple t #[a, b, c, d, e]) (hs : s.heap.IsSliceOf sl .none (.int 4 u) .none)
    (h : Q (.ref s.heap.objs.size) { s with heap := s.heap.push (tup [a, b, c, d]) }) : wpAny (model prog w) A (getItem (.ref t) (.ref sl)) Q E s := by
  obtain ⟨os, hos, hcs, hds⟩ := id hs
  have hTs : s.TypeIs (.ref sl) "slice" := ⟨os, hos, hcs⟩
  unfold getItem
  try with_reducible refine wpAny_holding ?_
  first | refine wpAny_bind (wpAny_pure ?_) | skip
  refine wpAny_bind (wpAny_sequenceKey ht.typeIs (by decide) ?_)
  refine wpAny_bind (wpAny_callSpecial?_slot (name := Str.ofString "__getitem__") ht.typeIs slot_tuple_getitem
    (wpAny_call_entry slot_tuple_getitem ht.typeIs entry_tuple_getitem ?_ (args_tuple_getitem _ _)))
  show wpAny _ _ (Builtin.Tuple.tupleItemsOf (.ref t) >>= _) _ _ s
  refine wpAny_bind (tupleItemsOf_ ht ?_)
  refine wpAny_bind (wpAny_typeOf hTs ?_)
  rw [if_pos (by decide)]
  refine wpAny_bind (applied4 hs ?_)
  show wpAny _ _ (if ((0 : Int) == 0 && (1 : Int) == 1 && (4 : Nat) == 5) = true then _ else _) _ _ s
  rw [if_neg (by decide)]
  have hp : ((List.range 4).filterMap fun (k : Nat) => (#[a, b, c, d, e] : Array Value)[((0 : Int) + (k : Int) * 1).toNat]?).toArray = [a, b, c, d].toArray := by rfl
  rw [hp]
  first
    | exact wpAny_bind (m := Builtin.Tuple.tupleExact _) (wpAny_newObj_type (wpAny_pure ⟨_, rfl, wpAny_pure h⟩))
    | exact wpAny_bind (m := Builtin.Tuple.tupleExact _) (wpAny_newObj_type (wpAny_bind (wpAny_pure (wpAny_pure ⟨_, rfl, wpAny_pure h⟩))))
    | exact wpAny_bind (wpAny_bind (m := Builtin.Tuple.tupleExact _) (wpAny_newObj_type (wpAny_pure (wpAny_pure ⟨_, rfl, wpAny_pure h⟩))))
    | exact wpAny_bind (wpAny_bind (m := Builtin.Tuple.tupleExact _) (wpAny_newObj_type (wpAny_pure ⟨_, rfl, wpAny_pure h⟩)))
theorem slice4 {h₀ : Heap} {L : Addr} {m : Str → Option Value} {news : Led} {value slice : PySem.Expr} {t : Addr} {a b c d e : Value} {u : Tok} {Q : Value → Shared → Prop} (F : Fr h₀ L s.heap m) (N : News h₀ L s.heap news) (hm : (t, tup [a, b, c, d, e]) ∈ news)
    (h : ∀ D h', Fr h₀ L h' m → News h₀ L h' ((D, tup [a, b, c, d]) :: news) → AllLt D news → Q (.ref D) { s with heap := h' })
    (hs : subscripted slice false (.ref t) (.ref s.heap.objs.size) = operate [.ref s.heap.objs.size, .ref t] (getItem (.ref t) (.ref s.heap.objs.size)) := by with_unfolding_all rfl)
    (hg : ∀ r, letTemporaryGo value (.ref t) r = pure () := by intro _; with_unfolding_all rfl) :
    wpAny (model prog w) A (subscriptTail value slice (.ref t) (.ref s.heap.objs.size)) Q E { s with heap := s.heap.push { cls := .type "slice", data := .fields #[.none, .int 4 u, .none] } } := by
  have ht : Heap.IsTuple (s.heap.push { cls := .type "slice", data := .fields #[.none, .int 4 u, .none] }) t #[a, b, c, d, e] := ⟨_, Heap.get?_push_of_some _ (N _ hm).1, rfl, _, rfl⟩
  refine subscriptTail_ops (s := { s with heap := s.heap.push { cls := .type "slice", data := .fields #[.none, .int 4 u, .none] } }) ht.typeIs slot_tuple_getitem.lookup
    (getItem4 ht (Heap.IsSliceOf.new ..) ?_) hs hg
  have N1 := News.push (F.push { cls := .type "slice", data := .fields #[.none, .int 4 u, .none] }) (N.grown fun _ _ e => Heap.get?_push_of_some _ e) (tup [a, b, c, d])
  rw [Heap.size_push] at N1
  show Q (.ref (s.heap.push _).objs.size) _
  rw [Heap.size_push]
  exact h _ _ ((F.push _).push _) N1 (allLt_of fun p hp => Nat.lt_succ_of_lt (Heap.lt_size (N p hp).1))
theorem slice4' {h₀ h : Heap} {L n : Addr} {m : Str → Option Value} {news : Led} {value slice : PySem.Expr} {t : Addr} {a b c d e : Value} {u : Tok} {Q : Value → Shared → Prop} {gs : Array GenState} {dr : Drawn} {tk : Nat} {os : OsState}
    (F : Fr h₀ L h m) (N : News h₀ L h news) (hm : (t, tup [a, b, c, d, e]) ∈ news) (hn : n = h.objs.size)
    (k : ∀ D h', Fr h₀ L h' m → News h₀ L h' ((D, tup [a, b, c, d]) :: news) → AllLt D news → Q (.ref D) { heap := h', gens := gs, drawn := dr, toks := tk, os := os })
    (hs : subscripted slice false (.ref t) (.ref n) = operate [.ref n, .ref t] (getItem (.ref t) (.ref n))) (hg : ∀ r, letTemporaryGo value (.ref t) r = pure ()) :
    wpAny (model prog w) A (subscriptTail value slice (.ref t) (.ref n)) Q E { heap := h.push { cls := .type "slice", data := .fields #[.none, .int 4 u, .none] }, gens := gs, drawn := dr, toks := tk, os := os } := by
  subst hn
  exact slice4 (s := { heap := h, gens := gs, drawn := dr, toks := tk, os := os }) F N hm k hs hg
end
end Mine
end

section
open PySem PySem.Spec PySem.W PyProof.Rows PySem.Calls PyProof.Rows.LCg
namespace Mine
theorem dlUp {g : Heap} {tl tl' : Led} {v : Value} {d : PyData} (x : DL (At g tl) v d) (h : ∀ p ∈ tl, p ∈ tl') : DL (At g tl') v d := x.up (At.up h)
theorem dlsUp {g : Heap} {tl tl' : Led} {v : List Value} {d : List PyData} (x : DLs (At g tl) v d) (h : ∀ p ∈ tl, p ∈ tl') : DLs (At g tl') v d := x.up (At.up h)
theorem sub_tl {tl tl' : Led} {p : Addr × Obj} (h : ∀ p ∈ tl, p ∈ tl') : ∀ q ∈ tl, q ∈ p :: tl' := fun q hq => .tail _ (h q hq)
theorem neYes {prog : Program} {w : World} {A : Around} {E : Value → Shared → Prop} {s : Shared} {g : Heap} {L : Addr} {m : Str → Option Value} {news : Led} {a b : Value} {da db : PyData} {Q : Value → Shared → Prop}
    (F : Fr g L s.heap m) (N : News g L s.heap news) (ra : DL (At g news) a da) (rb : DL (At g news) b db) (ha : OkD 12 da) (hb : OkD 12 db) (hu : A.units + 64 < cLine) (he : PyData.eqv da db = false)
    (h : Q (.bool true) s) : wpAny (model prog w) A (compareOp .NotEq a b) Q E s :=
  neDL F N ra rb (ha.shaped (by decide)) (hb.shaped (by decide)) hu (by rw [he]; exact h)
theorem neNo {prog : Program} {w : World} {A : Around} {E : Value → Shared → Prop} {s : Shared} {g : Heap} {L : Addr} {m : Str → Option Value} {news : Led} {a b : Value} {da db : PyData} {Q : Value → Shared → Prop}
    (F : Fr g L s.heap m) (N : News g L s.heap news) (ra : DL (At g news) a da) (rb : DL (At g news) b db) (ha : OkD 12 da) (hb : OkD 12 db) (hu : A.units + 64 < cLine) (he : PyData.eqv da db = true)
    (h : Q (.bool false) s) : wpAny (model prog w) A (compareOp .NotEq a b) Q E s :=
  neDL F N ra rb (ha.shaped (by decide)) (hb.shaped (by decide)) hu (by rw [he]; exact h)
theorem linesCI1 : True := by
  k_with_none
  k_with "ne" => (refine neN ?_; (try dsimp only); first | with_reducible assumption | with_reducible exact Ne.symm (by with_reducible assumption) | exact Nat.ne_of_lt (by first | with_reducible assumption | ((refine ltC (by with_reducible assumption) ?_); (repeat (first | with_reducible exact takeL | with_reducible exact sameL | with_reducible refine skipL ?_)); done) | fail) | exact Ne.symm (Nat.ne_of_lt (by first | with_reducible assumption | ((refine ltC (by with_reducible assumption) ?_); (repeat (first | with_reducible exact takeL | with_reducible exact sameL | with_reducible refine skipL ?_)); done) | fail)) | omega)
  k_with "in" => first | with_reducible exact DL.none | with_reducible exact DL.bool _ | with_reducible exact DL.int _ _ | with_reducible exact DL.str _ _ | with_reducible assumption | ((refine' dlUp (by with_reducible assumption) (by first | ((repeat (with_reducible refine sub_tl ?_)); exact fun _ h => h) | fail))) | ((refine' dlsUp (by with_reducible assumption) (by first | ((repeat (with_reducible refine sub_tl ?_)); exact fun _ h => h) | fail))) | with_reducible exact DLs.nil | ((with_reducible show DLs _ _ _); refine' DLs.cons (by first | kqd_in | fail) (by first | kqd_in | fail)) | (refine' dlTup (by first | k_mem | fail) (by first | (exact rfl) | fail) (by first | kqd_in | fail)) | (refine' dlLst (by first | k_mem | fail) (by first | (exact rfl) | fail) (by first | kqd_in | fail)) | fail
  k_with "all" => first | with_reducible assumption | exact OkD.le (by with_reducible assumption) (by decide) | exact OkDs.le (by with_reducible assumption) (by decide) | with_reducible exact OkD.none | with_reducible exact OkD.bool _ | with_reducible exact OkD.int _ | ((with_reducible refine OkD.str ?_); first | with_reducible assumption | decide +kernel) | with_reducible exact OkDs.nil | ((with_reducible refine OkDs.cons ?_ ?_) <;> kqd_all) | ((with_reducible refine OkD.tuple ?_); kqd_all) | ((with_reducible refine OkD.list ?_); kqd_all) | fail
  k_with "compareOp NotEq ref ref" => (k_here; k_dflt (refine' neYes (by k_asm) (by k_asm) (by first | kqd_in | fail) (by first | kqd_in | fail) (by first | kqd_all | fail) (by first | kqd_all | fail) (by first | ktr_units | fail) (by first | (first | with_reducible assumption | exact rfl) | fail) ?_; k_whole))
  k_with "compareOp NotEq ref ref" => (k_here; k_dflt (refine' neNo (by k_asm) (by k_asm) (by first | kqd_in | fail) (by first | kqd_in | fail) (by first | kqd_all | fail) (by first | kqd_all | fail) (by first | ktr_units | fail) (by first | (first | with_reducible assumption | exact rfl) | fail) ?_; k_whole))
  k_with "mem" => first | with_reducible assumption | with_reducible exact List.Mem.head _ | ((with_reducible refine List.mem_cons_of_mem _ ?_); k_mem) | fail
  k_with "subscriptTail Name Slice ref ref" => (k_here; (with_reducible show wpAny _ _ (subscriptTail _ (PySem.Expr.Slice _ _ none _) (Value.ref _) (Value.ref _)) _ _ _); k_dflt (refine' slice4' (by k_asm) (by k_asm) (by first | k_mem | fail) (by first | (exact rfl) | fail) ?_ (by first | (with_unfolding_all rfl) | fail) (by first | kmk_pure | fail)); intro wD' wh' wF' wN' wl1; (try dsimp only [AllLt] at wl1); (try k_sweep))
  k_with "unf" => repeat' (first | (k_unfold; (try dsimp only)) | ((try dsimp only); w_not_for; (fail_if_success (with_reducible show wpAny _ _ (call (Value.type "list") _) _ _ _)); (fail_if_success (with_reducible show wpAny _ _ (call (Value.type "zip") _) _ _ _)); walk1) | fail "no step")
  trivial
theorem zipN' {prog : Program} {w : World} {A : Around} {E : Value → Shared → Prop} {s : Shared} {h₀ : Heap} {L : Addr} {m : Str → Option Value} {news : Led} {a b : Addr} {xs ys : List Value} {Q : Value → Shared → Prop} (F : Fr h₀ L s.heap m) (N : News h₀ L s.heap news) (ha : (a, tup xs) ∈ news) (hb : (b, tup ys) ∈ news)
    (h : ∀ z h', Fr h₀ L h' m → News h₀ L h' news → ZipFact h₀ L news h' a b z → h'.IsTuple a xs.toArray → h'.IsTuple b ys.toArray → Q (.ref z) { s with heap := h' }) :
    wpAny (model prog w) A (call (.type "zip") [.ref a, .ref b]) Q E s := zipN F N ⟨_, (N _ ha).1, rfl, _, rfl⟩ ⟨_, (N _ hb).1, rfl, _, rfl⟩ h
/-- is_same, heads that differ -/
theorem isSameNo {w : World} {dp un : Nat} {fs : Option (List Env)} {gd : Option (List Code)} {s : Shared} {Q E : Value → Shared → Prop} {h₀ : Heap} {L : Addr} {m : Str → Option Value} {news : Led} {b1 b2 : Addr} {u1 u2 u3 u4 v1 v2 v3 v4 : Value} {C1 C2 : Addr} {ds es : List PyData} {D1 D2 : PyData}
    (G : Gr w h₀) (F : Fr h₀ L s.heap m) (N : News h₀ L s.heap news) (hdp : dp + 16 < recursionLimit) (hun : un + 200 < cLine)
    (m1 : (b1, tup [u1, u2, u3, u4, .ref C1]) ∈ news) (m2 : (b2, tup [v1, v2, v3, v4, .ref C2]) ∈ news) (d1 : DLs (At h₀ news) [u1, u2, u3, u4] ds) (d2 : DLs (At h₀ news) [v1, v2, v3, v4] es) (k1 : OkDs 4 ds) (k2 : OkDs 4 es)
    (x1 : DL (At h₀ news) (.ref b1) D1) (x2 : DL (At h₀ news) (.ref b2) D2) (o1 : OkD 8 D1) (o2 : OkD 8 D2) (hne : PyData.eqv (.tuple ds) (.tuple es) = false)
    (ret : ∀ h' tk, Fr h₀ L h' m → News h₀ L h' news → Q (.bool false) { s with heap := h', toks := tk }) :
    wpAny (model PySem.Challenge.pw_xm0632_01 w) (AR dp un fs gd) (call (.ref 42) [.ref b1, .ref b2]) Q E s := by
  obtain ⟨⟨loose, mean, mg, mb, T⟩, X⟩ := G
  refine wpAny_call ?_
  refine enterS [(Str.ofString "one", .ref b1), (Str.ofString "other", .ref b2)] news (fun _ h => h) X T F N (by k_is) (by k_is) (by omega) (BindsTo.of_eq rfl) (locs rfl) (by decide) rfl rfl rfl ?_
  intro g L' h₁ X' T' sg hAt back F' N' lt'
  replace d1 := d1.up hAt
  replace d2 := d2.up hAt
  replace x1 := x1.up hAt
  replace x2 := x2.up hAt
  clear F N X T hAt
  ktr_unf
  with_reducible rename News g L' _ _ => nN
  with_reducible rename Fr g L' _ _ => nF
  obtain ⟨bF, bN, -, -⟩ := back _ _ _ nF nN
  exact ret _ _ bF fun p hp => bN p (by repeat (first | exact hp | refine List.mem_cons_of_mem _ ?_))
theorem linesCI2 : True := by
  k_with "call type:zip" => (k_here; (with_reducible show wpAny _ _ (call (Value.type _) [Value.ref _, Value.ref _]) _ _ _); k_dflt (refine' zipN' (by k_asm) (by k_asm) (by first | k_mem | fail) (by first | k_mem | fail) ?_); intro wz' wh' wF' wN' wZF' wZA' wZB'; (try k_sweep))
  k_with "call type:list" => (k_here; (with_reducible show wpAny _ _ (call (Value.type _) [Value.ref _]) _ _ _); k_dflt (refine' listZip0 (by first | (exact rfl) | fail) (by k_asm) (by k_asm) (by with_reducible assumption) (by with_reducible assumption) ?_); intro wD' wc' wh' wtk' wF' wN' wl1; (try dsimp only [AllLt] at wl1); (try k_sweep))
  k_with "call type:list" => (k_here; (with_reducible show wpAny _ _ (call (Value.type _) [Value.ref _]) _ _ _); k_dflt (refine' listZip1 (by first | (exact rfl) | fail) (by k_asm) (by k_asm) (by with_reducible assumption) (by with_reducible assumption) (by with_reducible assumption) ?_); intro wD' wT' wc' wh' wtk' wF' wN' wl1 wl2; (try dsimp only [AllLt] at wl1 wl2); (try k_sweep))
  k_with "unf" => repeat' (first | (k_unfold; (try dsimp only)) | ((try dsimp only); w_not_for; walk1) | fail "no step")
  trivial
/-- is_same, heads alike and no children -/
theorem isSameEq0 {w : World} {dp un : Nat} {fs : Option (List Env)} {gd : Option (List Code)} {s : Shared} {Q E : Value → Shared → Prop} {h₀ : Heap} {L : Addr} {m : Str → Option Value} {news : Led} {b1 b2 : Addr} {u1 u2 u3 u4 v1 v2 v3 v4 : Value} {C1 C2 : Addr} {ds es : List PyData} {D1 D2 : PyData}
    (G : Gr w h₀) (F : Fr h₀ L s.heap m) (N : News h₀ L s.heap news) (hdp : dp + 16 < recursionLimit) (hun : un + 200 < cLine)
    (m1 : (b1, tup [u1, u2, u3, u4, .ref C1]) ∈ news) (m2 : (b2, tup [v1, v2, v3, v4, .ref C2]) ∈ news) (c1 : (C1, tup []) ∈ news) (c2 : (C2, tup []) ∈ news) (d1 : DLs (At h₀ news) [u1, u2, u3, u4] ds) (d2 : DLs (At h₀ news) [v1, v2, v3, v4] es) (k1 : OkDs 4 ds) (k2 : OkDs 4 es)
    (x1 : DL (At h₀ news) (.ref b1) D1) (x2 : DL (At h₀ news) (.ref b2) D2) (o1 : OkD 8 D1) (o2 : OkD 8 D2) (hne : PyData.eqv (.tuple ds) (.tuple es) = true)
    (ret : ∀ h' tk, Fr h₀ L h' m → News h₀ L h' news → Q (.bool true) { s with heap := h', toks := tk }) :
    wpAny (model PySem.Challenge.pw_xm0632_01 w) (AR dp un fs gd) (call (.ref 42) [.ref b1, .ref b2]) Q E s := by
  obtain ⟨⟨loose, mean, mg, mb, T⟩, X⟩ := G
  refine wpAny_call ?_
  refine enterS [(Str.ofString "one", .ref b1), (Str.ofString "other", .ref b2)] news (fun _ h => h) X T F N (by k_is) (by k_is) (by omega) (BindsTo.of_eq rfl) (locs rfl) (by decide) rfl rfl rfl ?_
  intro g L' h₁ X' T' sg hAt back F' N' lt'
  replace d1 := d1.up hAt
  replace d2 := d2.up hAt
  replace x1 := x1.up hAt
  replace x2 := x2.up hAt
  clear F N X T hAt
  ktr_unf
  with_reducible rename News g L' _ _ => nN
  with_reducible rename Fr g L' _ _ => nF
  obtain ⟨bF, bN, -, -⟩ := back _ _ _ nF nN
  exact ret _ _ bF fun p hp => bN p (by repeat (first | exact hp | refine List.mem_cons_of_mem _ ?_))
end Mine
end

section
open PySem PySem.Spec PySem.W PyProof.Rows PySem.Calls PyProof.Rows.LCg
namespace Mine
theorem linesCI21 : True := by
  k_with_none
  k_with "ne" => (refine neN ?_; (try dsimp only); first | with_reducible assumption | with_reducible exact Ne.symm (by with_reducible assumption) | exact Nat.ne_of_lt (by first | with_reducible assumption | ((refine ltC (by with_reducible assumption) ?_); (repeat (first | with_reducible exact takeL | with_reducible exact sameL | with_reducible refine skipL ?_)); done) | fail) | exact Ne.symm (Nat.ne_of_lt (by first | with_reducible assumption | ((refine ltC (by with_reducible assumption) ?_); (repeat (first | with_reducible exact takeL | with_reducible exact sameL | with_reducible refine skipL ?_)); done) | fail)) | omega)
  k_with "in" => first | with_reducible exact DL.none | with_reducible exact DL.bool _ | with_reducible exact DL.int _ _ | with_reducible exact DL.str _ _ | with_reducible assumption | ((refine' dlUp (by with_reducible assumption) (by first | ((repeat (with_reducible refine sub_tl ?_)); exact fun _ h => h) | fail))) | ((refine' dlsUp (by with_reducible assumption) (by first | ((repeat (with_reducible refine sub_tl ?_)); exact fun _ h => h) | fail))) | with_reducible exact DLs.nil | ((with_reducible show DLs _ _ _); refine' DLs.cons (by first | kqd_in | fail) (by first | kqd_in | fail)) | (refine' dlTup (by first | k_mem | fail) (by first | (exact rfl) | fail) (by first | kqd_in | fail)) | (refine' dlLst (by first | k_mem | fail) (by first | (exact rfl) | fail) (by first | kqd_in | fail)) | fail
  k_with "all" => first | with_reducible assumption | exact OkD.le (by with_reducible assumption) (by decide) | exact OkDs.le (by with_reducible assumption) (by decide) | with_reducible exact OkD.none | with_reducible exact OkD.bool _ | with_reducible exact OkD.int _ | ((with_reducible refine OkD.str ?_); first | with_reducible assumption | decide +kernel) | with_reducible exact OkDs.nil | ((with_reducible refine OkDs.cons ?_ ?_) <;> kqd_all) | ((with_reducible refine OkD.tuple ?_); kqd_all) | ((with_reducible refine OkD.list ?_); kqd_all) | fail
  k_with "compareOp NotEq ref ref" => (k_here; k_dflt (refine' neYes (by k_asm) (by k_asm) (by first | kqd_in | fail) (by first | kqd_in | fail) (by first | kqd_all | fail) (by first | kqd_all | fail) (by first | ktr_units | fail) (by first | (first | with_reducible assumption | exact rfl) | fail) ?_; k_whole))
  k_with "compareOp NotEq ref ref" => (k_here; k_dflt (refine' neNo (by k_asm) (by k_asm) (by first | kqd_in | fail) (by first | kqd_in | fail) (by first | kqd_all | fail) (by first | kqd_all | fail) (by first | ktr_units | fail) (by first | (first | with_reducible assumption | exact rfl) | fail) ?_; k_whole))
  k_with "mem" => first | with_reducible assumption | with_reducible exact List.Mem.head _ | ((with_reducible refine List.mem_cons_of_mem _ ?_); k_mem) | fail
  k_with "subscriptTail Name Slice ref ref" => (k_here; (with_reducible show wpAny _ _ (subscriptTail _ (PySem.Expr.Slice _ _ none _) (Value.ref _) (Value.ref _)) _ _ _); k_dflt (refine' slice4' (by k_asm) (by k_asm) (by first | k_mem | fail) (by first | (exact rfl) | fail) ?_ (by first | (with_unfolding_all rfl) | fail) (by first | kmk_pure | fail)); intro wD' wh' wF' wN' wl1; (try dsimp only [AllLt] at wl1); (try k_sweep))
  k_with "unf" => repeat' (first | (k_unfold; (try dsimp only)) | ((try dsimp only); w_not_for; (fail_if_success (with_reducible show wpAny _ _ (call (Value.type "list") _) _ _ _)); (fail_if_success (with_reducible show wpAny _ _ (call (Value.type "zip") _) _ _ _)); walk1) | fail "no step")
  k_with "call type:zip" => (k_here; (with_reducible show wpAny _ _ (call (Value.type _) [Value.ref _, Value.ref _]) _ _ _); k_dflt (refine' zipN' (by k_asm) (by k_asm) (by first | k_mem | fail) (by first | k_mem | fail) ?_); intro wz' wh' wF' wN' wZF' wZA' wZB'; (try k_sweep))
  k_with "call type:list" => (k_here; (with_reducible show wpAny _ _ (call (Value.type _) [Value.ref _]) _ _ _); k_dflt (refine' listZip0 (by first | (exact rfl) | fail) (by k_asm) (by k_asm) (by with_reducible assumption) (by with_reducible assumption) ?_); intro wD' wc' wh' wtk' wF' wN' wl1; (try dsimp only [AllLt] at wl1); (try k_sweep))
  k_with "call type:list" => (k_here; (with_reducible show wpAny _ _ (call (Value.type _) [Value.ref _]) _ _ _); k_dflt (refine' listZip1 (by first | (exact rfl) | fail) (by k_asm) (by k_asm) (by with_reducible assumption) (by with_reducible assumption) (by with_reducible assumption) ?_); intro wD' wT' wc' wh' wtk' wF' wN' wl1 wl2; (try dsimp only [AllLt] at wl1 wl2); (try k_sweep))
  k_with "unf" => repeat' (first | (k_unfold; (try dsimp only)) | ((try dsimp only); w_not_for; walk1) | fail "no step")
  trivial
/-- is_same, heads alike, one child each that are alike -/
theorem isSameEq1 {w : World} {dp un : Nat} {fs : Option (List Env)} {gd : Option (List Code)} {s : Shared} {Q E : Value → Shared → Prop} {h₀ : Heap} {L : Addr} {m : Str → Option Value} {news : Led} {b1 b2 y1 y2 : Addr} {u1 u2 u3 u4 v1 v2 v3 v4 p1 p2 p3 p4 q1 q2 q3 q4 : Value} {C1 C2 Z1 Z2 : Addr} {ds es fs1 gs1 : List PyData} {D1 D2 Y1 Y2 : PyData}
    (G : Gr w h₀) (F : Fr h₀ L s.heap m) (N : News h₀ L s.heap news) (hdp : dp + 16 < recursionLimit) (hun : un + 200 < cLine)
    (m1 : (b1, tup [u1, u2, u3, u4, .ref C1]) ∈ news) (m2 : (b2, tup [v1, v2, v3, v4, .ref C2]) ∈ news) (c1 : (C1, tup [.ref y1]) ∈ news) (c2 : (C2, tup [.ref y2]) ∈ news) (n1 : (y1, tup [p1, p2, p3, p4, .ref Z1]) ∈ news) (n2 : (y2, tup [q1, q2, q3, q4, .ref Z2]) ∈ news) (z1 : (Z1, tup []) ∈ news) (z2 : (Z2, tup []) ∈ news)
    (d1 : DLs (At h₀ news) [u1, u2, u3, u4] ds) (d2 : DLs (At h₀ news) [v1, v2, v3, v4] es) (k1 : OkDs 4 ds) (k2 : OkDs 4 es) (e1 : DLs (At h₀ news) [p1, p2, p3, p4] fs1) (e2 : DLs (At h₀ news) [q1, q2, q3, q4] gs1) (k3 : OkDs 4 fs1) (k4 : OkDs 4 gs1)
    (x1 : DL (At h₀ news) (.ref b1) D1) (x2 : DL (At h₀ news) (.ref b2) D2) (o1 : OkD 8 D1) (o2 : OkD 8 D2) (x3 : DL (At h₀ news) (.ref y1) Y1) (x4 : DL (At h₀ news) (.ref y2) Y2) (o3 : OkD 8 Y1) (o4 : OkD 8 Y2) (hne : PyData.eqv (.tuple ds) (.tuple es) = true) (hny : PyData.eqv (.tuple fs1) (.tuple gs1) = true)
    (ret : ∀ h' tk, Fr h₀ L h' m → News h₀ L h' news → Q (.bool true) { s with heap := h', toks := tk }) :
    wpAny (model PySem.Challenge.pw_xm0632_01 w) (AR dp un fs gd) (call (.ref 42) [.ref b1, .ref b2]) Q E s := by
  obtain ⟨⟨loose, mean, mg, mb, T⟩, X⟩ := G
  refine wpAny_call ?_
  refine enterS [(Str.ofString "one", .ref b1), (Str.ofString "other", .ref b2)] news (fun _ h => h) X T F N (by k_is) (by k_is) (by omega) (BindsTo.of_eq rfl) (locs rfl) (by decide) rfl rfl rfl ?_
  intro g L' h₁ X' T' sg hAt back F' N' lt'
  replace d1 := d1.up hAt
  replace d2 := d2.up hAt
  replace e1 := e1.up hAt
  replace e2 := e2.up hAt
  replace x1 := x1.up hAt
  replace x2 := x2.up hAt
  replace x3 := x3.up hAt
  replace x4 := x4.up hAt
  clear F N X T hAt
  ktr_unf
  with_reducible rename News g L' _ _ => nN
  with_reducible rename Fr g L' _ _ => nF
  obtain ⟨bF, bN, -, -⟩ := back _ _ _ nF nN
  exact ret _ _ bF fun p hp => bN p (by repeat (first | exact hp | refine List.mem_cons_of_mem _ ?_))
end Mine
end

section
open PySem PySem.Spec PySem.W PyProof.Rows PySem.Calls PyProof.Rows.LCg
namespace Mine
/-- a zip of two lists stands -/
structure ZipL (h : Heap) (z TI TO i1 i2 l1 l2 : Addr) (xs ys : Array Value) (k : Nat) : Prop where
  z : IsZip h z TI TO .none
  TI : IsPair h TI (.ref i1) (.ref i2)
  TO : ∃ a b, IsPair h TO a b
  i1 : h.IsListIter i1 l1 k
  i2 : h.IsListIter i2 l2 k
  l1 : h.IsList l1 xs
  l2 : h.IsList l2 ys
inductive ZipLFact (h₀ : Heap) (L : Addr) (news : Led) (h : Heap) (l1 l2 z : Addr) (xs ys : Array Value) : Prop
  | mk (TI TO i1 i2 : Addr) (D : ZipApart z TI TO i1 i2 l1 l2) (Z : ZipL h z TI TO i1 i2 l1 l2 xs ys 0) (ap : ∀ c, ((∃ o, h₀.get? c = some o) ∨ (∃ o, (c, o) ∈ news) ∨ c = L) → @Ne Nat c z ∧ @Ne Nat c TI ∧ @Ne Nat c TO ∧ @Ne Nat c i1 ∧ @Ne Nat c i2)
section
variable {prog : Program} {w : World} {A : Around} {E : Value → Shared → Prop} {s : Shared} {h₀ : Heap} {L : Addr} {m : Str → Option Value} {env : Env} {news : Led}
theorem zipLN {l1 l2 : Addr} {xs ys : Array Value} {Q : Value → Shared → Prop} (F : Fr h₀ L s.heap m) (N : News h₀ L s.heap news) (ha : s.heap.IsList l1 xs) (hb : s.heap.IsList l2 ys)
    (h : ∀ z h', Fr h₀ L h' m → News h₀ L h' news → ZipLFact h₀ L news h' l1 l2 z xs ys → Q (.ref z) { s with heap := h' }) :
    wpAny (model prog w) A (call (.type "zip") [.ref l1, .ref l2]) Q E s := by
  have la : l1 < s.heap.objs.size := by obtain ⟨_, e, _⟩ := ha; exact Heap.lt_size e
  have lb : l2 < s.heap.objs.size := by obtain ⟨_, e, _⟩ := hb; exact Heap.lt_size e
  refine call_zip_2 ha hb fun h' hz hTI hTO h1 h2 _ hk => h _ h' (F.keeps hk) (N.grown hk) ⟨_, _, _, _, zipApart_new la lb, ⟨hz, hTI, ⟨_, _, hTO⟩, h1, h2, ha.at fun o e => hk _ o e, hb.at fun o e => hk _ o e⟩, fun c hc => ?_⟩
  have hlt : @LT.lt Nat _ c s.heap.objs.size := by
    rcases hc with ⟨o, e⟩ | ⟨o, e⟩ | rfl
    · exact Heap.lt_size (F.keep _ _ e)
    · exact Heap.lt_size (N _ e).1
    · exact F.ns.lt
  refine ⟨?_, ?_, ?_, ?_, ?_⟩ <;> (intro q; subst q; exact absurd hlt (by first | exact Nat.lt_irrefl _ | exact Nat.not_lt.mpr (Nat.le_add_right _ _)))

inductive ZipSrc (prog : Program) (w : World) (A : Around) (h₀ : Heap) (L : Addr) (m : Str → Option Value) (env : Env) (elt : PySem.Expr) (a b : Str) (scope : Scope) (cl : List (Str × Addr)) (Q : Value → Shared → Prop) (xv : Value) (s₁ : Shared) : Prop
  | mk (z l1 l2 : Addr) (xs ys : Array Value) (news : Led) (lo1 lo2 : Obj) (V : Nat → Value → Prop) (e : xv = .ref z) (F : Fr h₀ L s₁.heap m) (N : News h₀ L s₁.heap news) (Z : ZipLFact h₀ L news s₁.heap l1 l2 z xs ys) (A1 : At h₀ news l1 lo1) (A2 : At h₀ news l2 lo2) (hxy : xs.size = ys.size) (hsz : xs.size ≤ sizeLine)
    (turn : ∀ i x y C oC m₂ h tk nl (R E' : Value → Shared → Prop), xs[i]? = some x → ys[i]? = some y → NsObj oC m₂ → m₂ a = some x → m₂ b = some y → Fr h₀ L h m → News h₀ L h nl → (C, oC) ∈ nl → (∀ p ∈ news, p ∈ nl) →
      (∀ v h' tk', V i v → Fr h₀ L h' m → News h₀ L h' nl → R v { s₁ with heap := h', toks := tk' }) → wpAny (model prog w) A (eval elt (compEnvC scope cl C env)) R E' { s₁ with heap := h, toks := tk })
    (fin : ∀ D vs h tk, vs.length = xs.size → (∀ (i : Nat) v, vs[i]? = some v → V i v) → Fr h₀ L h m → News h₀ L h ((D, lst vs) :: news) → AllLt D news → Q (.ref D) { s₁ with heap := h, toks := tk })
/-- between the turns of a comprehension over a zip -/
inductive ZipSt (h₀ : Heap) (L : Addr) (m : Str → Option Value) (s : Shared) (C D : Addr) (n : Nat) (V : Nat → Value → Prop) (Z : Heap → Nat → Prop) (news : Led) (k : Nat) (s' : Shared) : Prop
  | mk (h' : Heap) (tk i : Nat) (vs : List Value) (m' : Str → Option Value) (es : s' = { s with heap := h', toks := tk }) (hi : i ≤ n) (hk : k = n + 1 - i) (hv : vs.length = i) (hV : ∀ (j : Nat) v, vs[j]? = some v → V j v) (hZ : Z h' i) (F : Fr h₀ L h' m) (hn : h'.Ns C m') (N : News h₀ L h' ((D, lst vs) :: news))
structure OutOf (h₀ : Heap) (L C D : Addr) (news : Led) (c : Addr) : Prop where
  l : c ≠ L
  n : h₀.get? c = none
  cC : c ≠ C
  cD : c ≠ D
  nw : ∀ p ∈ news, @Ne Nat p.1 c
theorem news_cons {g h : Heap} {L a : Addr} {o : Obj} {r : Led} (x : h.get? a = some o) (x2 : a ≠ L) (x3 : g.get? a = none) (N : News g L h r) : News g L h ((a, o) :: r) := fun p hp => by
  rcases List.mem_cons.mp hp with rfl | hp
  · exact ⟨x, x2, x3⟩
  · exact N p hp
theorem zip_block {elt iter : PySem.Expr} {a b : Str} {pa pb tp : Pos} {kk : Nat} {scope : Scope} {cl : List (Str × Addr)} {pos : Pos} {z TI TO i1 i2 l1 l2 : Addr} {xs ys : Array Value} {lo1 lo2 : Obj} {V : Nat → Value → Prop} {RR : Value → Addr → Result → Shared → Prop} (hh : A.handled = none)
    (hcell : ∀ y ∈ scope.names, y.2 ≠ .cell) (hkind : scope.kind = .function) (ha : scope.names.lookup a = some .local) (hb : scope.names.lookup b = some .local) (hab : a ≠ b)
    (F : Fr h₀ L s.heap m) (N : News h₀ L s.heap news) (Dz : ZipApart z TI TO i1 i2 l1 l2) (Z0 : ZipL s.heap z TI TO i1 i2 l1 l2 xs ys 0)
    (ap : ∀ c, ((∃ o, h₀.get? c = some o) ∨ (∃ o, (c, o) ∈ news) ∨ c = L) → @Ne Nat c z ∧ @Ne Nat c TI ∧ @Ne Nat c TO ∧ @Ne Nat c i1 ∧ @Ne Nat c i2) (hA1 : At h₀ news l1 lo1) (hA2 : At h₀ news l2 lo2) (hxy : xs.size = ys.size) (hsz : xs.size ≤ sizeLine)
    (turn : ∀ i x y C oC m₂ h tk nl (R E' : Value → Shared → Prop), xs[i]? = some x → ys[i]? = some y → NsObj oC m₂ → m₂ a = some x → m₂ b = some y → Fr h₀ L h m → News h₀ L h nl → (C, oC) ∈ nl → (∀ p ∈ news, p ∈ nl) →
      (∀ v h' tk', V i v → Fr h₀ L h' m → News h₀ L h' nl → R v { s with heap := h', toks := tk' }) → wpAny (model prog w) A (eval elt (compEnvC scope cl C env)) R E' { s with heap := h, toks := tk })
    (hRR : ∀ D C h tk m' vs, vs.length = xs.size → (∀ (i : Nat) v, vs[i]? = some v → V i v) → Fr h₀ L h m → News h₀ L h ((D, lst vs) :: news) → AllLt D news → h.Ns C m' → h₀.get? C = none → C ≠ L → C ≠ D → (∀ p ∈ news, p.1 ≠ C) → RR (.ref D) C (.ok .next) { s with heap := h, toks := tk }) :
    wpAny (model prog w) A (newList []) (fun acc s₃ => wpAny (model prog w) A (newFunctionEnv scope env.globals cl [] env.qual none .none (some env)) (fun cenv s₄ =>
      codeAny (model prog w) A (.compStart (.ListComp elt [⟨.Tuple [.Name a pa, .Name b pb] kk tp, iter, [], 0⟩] scope pos) 0 (.ref z) acc { cenv with scope := relabel scope env }) (RR acc cenv.locals) s₄) (fun _ _ => False) s₃) (fun _ _ => False) s := by
  have W := WalksT.zip2 (prog := prog) (w := w) hh z TI TO i1 i2 l1 l2 Dz xs ys
  have hmin : min xs.size ys.size = xs.size := by rw [← hxy]; exact Nat.min_self _
  rw [hmin] at W
  generalize hnn : xs.size = n at *
  have hL1 : lo1.cls = .type "list" ∧ ∃ k, lo1.data = .seq xs k := by
    obtain ⟨o, e, r⟩ := Z0.l1
    rw [At.get F N _ _ hA1] at e
    cases e; exact r
  have hL2 : lo2.cls = .type "list" ∧ ∃ k, lo2.data = .seq ys k := by
    obtain ⟨o, e, r⟩ := Z0.l2
    rw [At.get F N _ _ hA2] at e
    cases e; exact r
  refine wpAny_newObj_type (wpAny_newFunctionEnv hcell (by intro y hy; simp at hy) (fun h₁ hns₁ hsb₁ => ?_) hkind)
  dsimp only at hns₁ hsb₁ ⊢
  generalize hH2 : s.heap.push { cls := .type "list", dict := none, data := .seq ([] : List Value).toArray } = H2 at hns₁ hsb₁ ⊢
  generalize hDd : s.heap.objs.size = D at *
  have hC : H2.objs.size = D + 1 := by rw [← hH2, Heap.size_push, hDd]
  generalize hCc : H2.objs.size = C at *
  have lDC : @LT.lt Nat _ D C := by rw [hC]; exact Nat.lt_succ_self D
  have hDC : D ≠ C := Nat.ne_of_lt lDC
  have lowO : ∀ (b : Nat) o, s.heap.get? b = some o → b < D := fun b o e => hDd ▸ Heap.lt_size e
  have low : ∀ b : Nat, b < D → b ≠ C ∧ b ≠ D := fun b hb => ⟨Nat.ne_of_lt (Nat.lt_trans hb lDC), Nat.ne_of_lt hb⟩
  have old : ∀ b o, s.heap.get? b = some o → h₁.get? b = some o := fun b o e => hsb₁.extBut b o (low b (lowO b o e)).1 (Heap.get?_push_of_some _ (hH2 ▸ Heap.get?_push_of_some _ e))
  have hacc : h₁.get? D = some (lst []) := hsb₁.extBut _ _ hDC (Heap.get?_push_of_some _ (hH2 ▸ hDd ▸ Heap.get?_push_size _ rfl))
  have fresh₀ : ∀ a : Nat, D ≤ a → h₀.get? a = none := fun a ha => by
    cases e : h₀.get? a with
    | none => rfl
    | some o' => exact absurd (lowO _ _ (F.keep a o' e)) (Nat.not_lt.mpr ha)
  have hD₀ : h₀.get? D = none := fresh₀ _ (Nat.le_refl _)
  have hC₀ : h₀.get? C = none := fresh₀ _ (Nat.le_of_lt lDC)
  have hLlt : @LT.lt Nat _ L D := hDd ▸ F.ns.lt
  have hDL : @Ne Nat D L := Ne.symm (Nat.ne_of_lt hLlt)
  have hCL : @Ne Nat C L := Ne.symm (Nat.ne_of_lt (Nat.lt_trans hLlt lDC))
  have lz : @LT.lt Nat _ z D := lowO _ _ Z0.z
  have lTI : @LT.lt Nat _ TI D := lowO _ _ Z0.TI
  have lTO : @LT.lt Nat _ TO D := by obtain ⟨_, _, e⟩ := Z0.TO; exact lowO _ _ e
  have l1' : @LT.lt Nat _ i1 D := by obtain ⟨_, e, _⟩ := Z0.i1; exact lowO _ _ e
  have l2' : @LT.lt Nat _ i2 D := by obtain ⟨_, e, _⟩ := Z0.i2; exact lowO _ _ e
  have out : ∀ c : Nat, c < D → (∀ c', ((∃ o, h₀.get? c' = some o) ∨ (∃ o, (c', o) ∈ news) ∨ c' = L) → @Ne Nat c' c) → OutOf h₀ L C D news c := by
    intro c hlt key
    refine ⟨Ne.symm (key L (.inr (.inr rfl))), ?_, (low _ hlt).1, (low _ hlt).2, fun p hp => key _ (.inr (.inl ⟨p.2, hp⟩))⟩
    cases e : h₀.get? c with
    | none => rfl
    | some o => exact absurd rfl (key c (.inl ⟨o, e⟩))
  have oz := out z lz fun c h => (ap c h).1
  have oTI := out TI lTI fun c h => (ap c h).2.1
  have oTO := out TO lTO fun c h => (ap c h).2.2.1
  have o1 := out i1 l1' fun c h => (ap c h).2.2.2.1
  have o2 := out i2 l2' fun c h => (ap c h).2.2.2.2
  have apart : ∀ c q : Nat, OutOf h₀ L C D news q → (c = L ∨ (∃ o, h₀.get? c = some o) ∨ (∃ p ∈ news, p.1 = c) ∨ c = C ∨ c = D) → c ≠ q := by
    rintro c _ oq hc rfl
    rcases hc with h | ⟨o, h⟩ | ⟨p, hp, h⟩ | h | h
    · exact oq.l h
    · rw [oq.n] at h; cases h
    · exact oq.nw p hp h
    · exact oq.cC h
    · exact oq.cD h
  have nwr : ∀ c : Nat, (c = L ∨ (∃ o, h₀.get? c = some o) ∨ (∃ p ∈ news, p.1 = c) ∨ c = C ∨ c = D) → c ∉ [z, TO, i1, i2] := fun c hc =>
    List.not_mem_cons_of_ne_of_not_mem (apart c _ oz hc) (List.not_mem_cons_of_ne_of_not_mem (apart c _ oTO hc) (List.not_mem_cons_of_ne_of_not_mem (apart c _ o1 hc) (List.not_mem_cons_of_ne_of_not_mem (apart c _ o2 hc) List.not_mem_nil)))
  have isl1 : ∀ h : Heap, Fr h₀ L h m → News h₀ L h news → h.IsList l1 xs := fun h F' N' => ⟨lo1, At.get F' N' _ _ hA1, hL1⟩
  have isl2 : ∀ h : Heap, Fr h₀ L h m → News h₀ L h news → h.IsList l2 ys := fun h F' N' => ⟨lo2, At.get F' N' _ _ hA2, hL2⟩
  have loop : ∀ s₃ : Shared, s₃ = { s with heap := h₁, toks := s.toks + ([] : List (Str × Value)).length } →
      codeAny (model prog w) A (.compLoop (.ListComp elt [⟨.Tuple [.Name a pa, .Name b pb] kk tp, iter, [], 0⟩] scope pos) 0 (.ref z) (.ref D) (compEnvC scope cl C env)) (RR (.ref D) C) s₃ := by
    rintro s₃ rfl
    refine compLoopG
      (ZipSt h₀ L m s C D n V (fun h' i => ZipL h' z TI TO i1 i2 l1 l2 xs ys i) news) ?_ (n + 1)
      ⟨h₁, _, 0, [], _, rfl, Nat.zero_le _, rfl, rfl, fun j v h => by simp at h, ⟨old _ _ Z0.z, old _ _ Z0.TI, let ⟨p, q, e⟩ := Z0.TO; ⟨p, q, old _ _ e⟩, Z0.i1.at fun o e => old _ _ e, Z0.i2.at fun o e => old _ _ e, Z0.l1.at fun o e => old _ _ e, Z0.l2.at fun o e => old _ _ e⟩, F.keeps old, hns₁, fun p hp => ?_⟩
    · rintro k s' ⟨h', tk, i, vs, m', rfl, hi, rfl, hvl, hV, Z', F', hn', N'⟩ E'
      by_cases hlt : i < n
      · refine W.item i _ _ _ hlt ⟨Z'.z, Z'.TI, Z'.TO, Z'.i1, Z'.i2, Z'.l1, Z'.l2⟩ fun T vals h₂ tk₂ hP _ hT hMid hk₂ => ?_
        obtain ⟨x, y, hx, hy, rfl⟩ := hP
        have hTw := W.apart i T _ hMid
        refine W.go _ _ _ i T _ _ _ hMid fun h₃ hst₃ hk₃ => ?_
        dsimp only at hk₃ hk₂ hT
        have hT₃ : h₃.IsTuple T #[x, y] := by obtain ⟨o, e, r⟩ := hT; exact ⟨o, hk₃ _ _ hTw e, r⟩
        have k₃ : ∀ b o, b ∉ [z, TO, i1, i2] → h'.get? b = some o → h₃.get? b = some o := fun b o hb e => hk₃ _ _ hb (hk₂ _ _ hb e)
        have hn₃ : h₃.Ns C m' := hn'.at' fun o e => k₃ _ _ (nwr C (.inr (.inr (.inr (.inl rfl))))) e
        refine wpAny_assign_Tuple hh hT₃ rfl rfl fun h₄ he₄ => ?_
        have up₄ : ∀ c o, h₃.get? c = some o → h₄.get? c = some o := fun c o e => he₄ c o (Nat.ne_of_lt (Heap.lt_size e)) e
        have hn₄ : h₄.Ns C m' := hn₃.at' fun o e => up₄ _ o e
        have hp : ((compEnvC scope cl C env).scope.kind == .class || ((compEnvC scope cl C env).scope.kind == .module && (compEnvC scope cl C env).locals != (compEnvC scope cl C env).globals)) = false := by simp [compEnvC, relabel, hkind]
        refine assignInOrder_cons ?_
        refine wpAny_assign_Name (wpAny_storeName_local (lookup_relabel_local ha) hn₄ (fun h₅ hn₅ hs₅ => ?_) hp)
        refine assignInOrder_cons ?_
        refine wpAny_assign_Name (wpAny_storeName_local (lookup_relabel_local hb) hn₅ (fun h₆ hn₆ hs₆ => ?_) hp)
        refine assignInOrder_nil ?_
        refine tests_nil ?_
        rw [if_pos rfl]
        dsimp only
        have up₆ : ∀ c o, c ≠ C → h₃.get? c = some o → h₆.get? c = some o := fun c o hc e => hs₆.extBut c o hc (hs₅.extBut c o hc (up₄ c o e))
        have k₆ : ∀ c o, c ∉ [z, TO, i1, i2] → c ≠ C → h'.get? c = some o → h₆.get? c = some o := fun c o hc hC e => up₆ c o hC (k₃ c o hc e)
        have F₆ : Fr h₀ L h₆ m := ⟨F'.ns.at' fun o e => k₆ _ o (nwr L (.inl rfl)) (Ne.symm hCL) e, fun c o e => k₆ c o (nwr c (.inr (.inl ⟨o, e⟩))) (fun q => by rw [q, hC₀] at e; cases e) (F'.keep _ _ e), F'.above⟩
        obtain ⟨sz, sTI, ⟨ta, tb, sTO⟩, ⟨q1, e1, r1⟩, ⟨q2, e2, r2⟩, -, -⟩ := hst₃
        obtain ⟨oC, heC, hoC⟩ := ns_obj hn₆
        have lowN : ∀ p ∈ news, @LT.lt Nat _ p.1 D := fun p hp => lowO _ _ (N p hp).1
        have N₆ := news_cons (up₆ _ _ oz.cC sz) oz.l oz.n (news_cons (up₆ _ _ oTI.cC sTI) oTI.l oTI.n (news_cons (up₆ _ _ oTO.cC sTO) oTO.l oTO.n (news_cons (up₆ _ _ o1.cC e1) o1.l o1.n (news_cons (up₆ _ _ o2.cC e2) o2.l o2.n (news_cons heC hCL hC₀
          (news_cons (k₆ _ _ (nwr D (.inr (.inr (.inr (.inr rfl))))) hDC (N' _ (.head _)).1) hDL hD₀ fun p hp => ⟨k₆ _ _ (nwr p.1 (.inr (.inr (.inl ⟨p, hp, rfl⟩)))) (low _ (lowN p hp)).1 (N' _ (.tail _ hp)).1, (N' _ (.tail _ hp)).2⟩))))))
        refine turn i x y C oC _ h₆ _ _ _ _ hx hy hoC (by simp [hab]) (by simp) F₆ N₆ (.tail _ (.tail _ (.tail _ (.tail _ (.tail _ (.head _)))))) (fun p hp => .tail _ (.tail _ (.tail _ (.tail _ (.tail _ (.tail _ (.tail _ hp))))))) fun v h₇ tk₇ hVv F₇ N₇ => ?_
        have nD : h₇.get? D = some (lst vs) := (N₇ _ (.tail _ (.tail _ (.tail _ (.tail _ (.tail _ (.tail _ (.head _)))))))).1
        refine append_at (hsz := by show vs.toArray.size ≤ sizeLine; rw [List.size_toArray]; omega) nD fun h₈ hs₈ hD₈ => ?_
        have N₈ : ∀ p ∈ news, h₈.get? p.1 = some p.2 := fun p hp => hs₈.extBut _ _ (low _ (lowN p hp)).2 (N₇ p (.tail _ (.tail _ (.tail _ (.tail _ (.tail _ (.tail _ (.tail _ hp)))))))).1
        have F₈ : Fr h₀ L h₈ m := F₇.change hs₈ hDL hD₀
        have N₈' : News h₀ L h₈ news := fun p hp => ⟨N₈ p hp, (N p hp).2⟩
        refine ⟨n + 1 - (i + 1), Nat.sub_lt_sub_left (Nat.lt_succ_of_lt hlt) (Nat.lt_succ_self i), h₈, tk₇, i + 1, vs ++ [v], _, rfl, hlt, rfl, by simp [hvl], ?_, ⟨?_, ?_, ⟨ta, tb, ?_⟩, ⟨q1, ?_, r1⟩, ⟨q2, ?_, r2⟩, isl1 _ F₈ N₈', isl2 _ F₈ N₈'⟩, F₈, (hoC.ns (N₇ _ (.tail _ (.tail _ (.tail _ (.tail _ (.tail _ (.head _))))))).1).sameBut hs₈ (Ne.symm hDC), fun p hp => ?_⟩
        · intro j u hj
          rcases Nat.lt_trichotomy j vs.length with h | h | h
          · exact hV j u (by rwa [List.getElem?_append_left h] at hj)
          · subst h; simp at hj; subst hj; rw [hvl]; exact hVv
          · rw [List.getElem?_eq_none (by simp; omega)] at hj; cases hj
        · exact hs₈.extBut _ _ oz.cD (N₇ _ (.head _)).1
        · exact hs₈.extBut _ _ oTI.cD (N₇ _ (.tail _ (.head _))).1
        · exact hs₈.extBut _ _ oTO.cD (N₇ _ (.tail _ (.tail _ (.head _)))).1
        · exact hs₈.extBut _ _ o1.cD (N₇ _ (.tail _ (.tail _ (.tail _ (.head _))))).1
        · exact hs₈.extBut _ _ o2.cD (N₇ _ (.tail _ (.tail _ (.tail _ (.tail _ (.head _)))))).1
        · exact news_cons (hD₈.trans (congrArg some (lst_snoc vs v))) hDL hD₀ N₈' p hp
      · obtain rfl : i = n := Nat.le_antisymm hi (Nat.not_lt.mp hlt)
        refine W.done _ _ _ ⟨Z'.z, Z'.TI, Z'.TO, Z'.i1, Z'.i2, Z'.l1, Z'.l2⟩ fun h₂ tk₂ hk₂ => ?_
        dsimp only at hk₂
        have F₂ : Fr h₀ L h₂ m := ⟨F'.ns.at' fun o e => hk₂ _ o (nwr L (.inl rfl)) e, fun c o e => hk₂ c o (nwr c (.inr (.inl ⟨o, e⟩))) (F'.keep _ _ e), F'.above⟩
        have N₂ : News h₀ L h₂ ((D, lst vs) :: news) := news_cons (hk₂ _ _ (nwr D (.inr (.inr (.inr (.inr rfl))))) (N' _ (.head _)).1) hDL hD₀ fun p hp => ⟨hk₂ _ _ (nwr p.1 (.inr (.inr (.inl ⟨p, hp, rfl⟩)))) (N' _ (.tail _ hp)).1, (N' _ (.tail _ hp)).2⟩
        exact hRR D C h₂ tk₂ m' vs hvl hV F₂ N₂ (allLt_of fun p hp => lowO _ _ (N p hp).1) (hn'.at' fun o e => hk₂ _ o (nwr C (.inr (.inr (.inr (.inl rfl))))) e) hC₀ hCL (Ne.symm hDC) fun p hp => (low _ (lowO _ _ (N p hp).1)).1
    · exact news_cons hacc hDL hD₀ (fun p hp => ⟨old _ _ (N p hp).1, (N p hp).2⟩) p hp
  exact codeAny_compStart_list (loop _ rfl) (W.self 0 _ _ _ ⟨old _ _ Z0.z, old _ _ Z0.TI, (let ⟨p, q, e⟩ := Z0.TO; ⟨p, q, old _ _ e⟩), Z0.i1.at fun o e => old _ _ e, Z0.i2.at fun o e => old _ _ e, Z0.l1.at fun o e => old _ _ e, Z0.l2.at fun o e => old _ _ e⟩ (loop _ rfl))

theorem comp_zip {elt iter : PySem.Expr} {a b : Str} {pa pb tp : Pos} {kk : Nat} {scope : Scope} {cl : List (Str × Addr)} {pos : Pos} {Q : Value → Shared → Prop} (_F : Fr h₀ L s.heap m) (hh : A.handled = none)
    (hclos : closureFor scope env = pure cl) (hcell : ∀ y ∈ scope.names, y.2 ≠ .cell) (hkind : scope.kind = .function)
    (hnames : ∀ y ∈ scope.names, y.2 = .local → scope.names.lookup y.1 = some .local) (ha : scope.names.lookup a = some .local) (hb : scope.names.lookup b = some .local) (hab : a ≠ b) (hs : ∀ x, foldedSetIterable iter env x = pure x)
    (h : wpAny (model prog w) A (eval iter env) (ZipSrc prog w A h₀ L m env elt a b scope cl Q) E s) :
    wpAny (model prog w) A (eval (.ListComp elt [⟨.Tuple [.Name a pa, .Name b pb] kk tp, iter, [], 0⟩] scope pos) env) Q E s := by
  rw [eval_ListComp]
  refine wpAny_comprehension_free (use := none) rfl hs hclos hkind hnames (wpAny_mono h (fun xv s₁ h₁ => ?_) fun _ _ e => e)
  obtain ⟨z, l1, l2, xs, ys, news, lo1, lo2, V, rfl, F, N, ⟨TI, TO, i1, i2, Dz, Z0, ap⟩, hA1, hA2, hxy, hsz, turn, fin⟩ := h₁
  refine wpAny_pyIter_zip Z0.z ?_
  refine wpAny_mono (zip_block (RR := compPost (model prog w) A E none Q) hh hcell hkind ha hb hab F N Dz Z0 ap hA1 hA2 hxy hsz turn ?_) (fun _ _ q => wpAny_mono q (fun _ _ q => q) fun _ _ q => q.elim) fun _ _ q => q.elim
  intro D C h tk m' vs hvl hV F' N' lt hn hC₀ hCL hCD offC
  refine ⟨m', hn, fun h'' hs'' => fin D vs h'' tk hvl hV (F'.change hs'' hCL hC₀) (fun p hp => ?_) lt⟩
  refine ⟨hs''.extBut _ _ ?_ (N' p hp).1, (N' p hp).2⟩
  rcases List.mem_cons.mp hp with rfl | hp
  · exact Ne.symm hCD
  · exact offC p hp
end
end Mine
end

section
open PySem PySem.Spec PySem.W PyProof.Rows PySem.Calls PyProof.Rows.LCg
namespace Mine
/-- the three forms that the law puts in -/
noncomputable abbrev Knd := Option Bool
noncomputable def headsD : Knd → List PyData
  | some true => [.str "text", .str "", .str "x", .tuple []]
  | some false => [.str "comment", .str "", .str "x", .tuple []]
  | none => [.str "element", .tuple [.str "e", .str "", .str "e"], .str "", .tuple []]
noncomputable def yHeadsD : List PyData := [.str "text", .str "", .str "y", .tuple []]
noncomputable def yD : PyData := .tuple (yHeadsD ++ [.tuple []])
noncomputable def formD : Knd → PyData
  | some true => .tuple (headsD (some true) ++ [.tuple []])
  | some false => .tuple (headsD (some false) ++ [.tuple []])
  | none => .tuple (headsD none ++ [.tuple [yD]])
noncomputable def FormK (A : Addr → Obj → Prop) (k : Knd) (v : Value) : Prop :=
  ∃ b u1 u2 u3 u4 C, v = .ref b ∧ A b (tup [u1, u2, u3, u4, .ref C]) ∧ DLs A [u1, u2, u3, u4] (headsD k) ∧
    (if k = none then ∃ y p1 p2 p3 p4 Z, A C (tup [.ref y]) ∧ A y (tup [p1, p2, p3, p4, .ref Z]) ∧ A Z (tup []) ∧ DLs A [p1, p2, p3, p4] yHeadsD else A C (tup []))
theorem FormK.up {A B : Addr → Obj → Prop} (hs : ∀ a o, A a o → B a o) {k : Knd} {v : Value} : FormK A k v → FormK B k v := by
  rintro ⟨b, u1, u2, u3, u4, C, e, h1, h2, h3⟩
  refine ⟨b, u1, u2, u3, u4, C, e, hs _ _ h1, h2.up hs, ?_⟩
  split at h3
  · rename_i q
    rw [if_pos q]
    obtain ⟨y, p1, p2, p3, p4, Z, a1, a2, a3, a4⟩ := h3
    exact ⟨y, p1, p2, p3, p4, Z, hs _ _ a1, hs _ _ a2, hs _ _ a3, a4.up hs⟩
  · rename_i q
    rw [if_neg q]; exact hs _ _ h3
theorem knd3 {P : Knd → Prop} (h1 : P (some true)) (h2 : P (some false)) (h3 : P none) (k : Knd) : P k := match k with
  | some true => h1
  | some false => h2
  | none => h3
theorem headsOk (k : Knd) : OkDs 3 (headsD k) := by
  refine knd3 (P := fun k => OkDs 3 (headsD k)) ?_ ?_ ?_ k
  · exact .cons (.str (by decide +kernel)) (.cons (.str (by decide +kernel)) (.cons (.str (by decide +kernel)) (.cons (.tuple .nil) .nil)))
  · exact .cons (.str (by decide +kernel)) (.cons (.str (by decide +kernel)) (.cons (.str (by decide +kernel)) (.cons (.tuple .nil) .nil)))
  · exact .cons (.str (by decide +kernel)) (.cons (.tuple (.cons (.str (by decide +kernel)) (.cons (.str (by decide +kernel)) (.cons (.str (by decide +kernel)) .nil)))) (.cons (.str (by decide +kernel)) (.cons (.tuple .nil) .nil)))
theorem yHeadsOk : OkDs 3 yHeadsD := .cons (.str (by decide +kernel)) (.cons (.str (by decide +kernel)) (.cons (.str (by decide +kernel)) (.cons (.tuple .nil) .nil)))
theorem yOk : OkD 4 yD := .tuple (yHeadsOk.append (.cons (.tuple .nil) .nil))
theorem formOk (k : Knd) : OkD 6 (formD k) := by
  refine knd3 (P := fun k => OkD 6 (formD k)) ?_ ?_ ?_ k
  · exact .tuple (OkDs.append ((headsOk (some true)).le (by decide)) (.cons (.tuple .nil) .nil))
  · exact .tuple (OkDs.append ((headsOk (some false)).le (by decide)) (.cons (.tuple .nil) .nil))
  · exact .tuple (OkDs.append ((headsOk none).le (by decide)) (.cons (OkD.tuple (.cons yOk .nil)) .nil))
theorem formsOk : ∀ ks : List Knd, OkDs 6 (ks.map formD)
  | [] => .nil
  | k :: ks => .cons (formOk k) (formsOk ks)
theorem FormK.dl {A : Addr → Obj → Prop} {k : Knd} {v : Value} : FormK A k v → DL A v (formD k) := by
  rintro ⟨b, u1, u2, u3, u4, C, rfl, h1, h2, h3⟩
  have leaf : A C (tup []) → DL A (.ref b) (.tuple (headsD k ++ [.tuple []])) := fun h => DL.tuple h1 rfl rfl rfl (DLs.append h2 (.cons (DL.tuple h rfl rfl rfl .nil) .nil))
  match k, h3, leaf with
  | some true, h3, leaf => exact leaf h3
  | some false, h3, leaf => exact leaf h3
  | none, h3, leaf =>
    obtain ⟨y, p1, p2, p3, p4, Z, a1, a2, a3, a4⟩ := h3
    exact DL.tuple h1 rfl rfl rfl (DLs.append h2 (.cons (DL.tuple a1 rfl rfl rfl (.cons (DL.tuple a2 rfl rfl rfl (DLs.append a4 (.cons (DL.tuple a3 rfl rfl rfl .nil) .nil))) .nil)) .nil))
theorem heads_ne {k j : Knd} (h : k ≠ j) : PyData.eqv (.tuple (headsD k)) (.tuple (headsD j)) = false := by
  rcases k with _ | (_ | _) <;> rcases j with _ | (_ | _) <;> first | exact absurd rfl h | rfl
theorem heads_eq (k : Knd) : PyData.eqv (.tuple (headsD k)) (.tuple (headsD k)) = true := SeqAt.eqv_refl _ (OkD.tuple (headsOk k)).1
theorem yHeads_eq : PyData.eqv (.tuple yHeadsD) (.tuple yHeadsD) = true := SeqAt.eqv_refl _ (OkD.tuple yHeadsOk).1
theorem formD_inj {k j : Knd} : PyData.eqv (formD k) (formD j) = decide (k = j) := by
  rcases k with _ | (_ | _) <;> rcases j with _ | (_ | _) <;> first | exact SeqAt.eqv_refl _ (formOk _).1 | rfl
theorem isSameK {w : World} {dp un : Nat} {fs : Option (List Env)} {gd : Option (List Code)} {s : Shared} {Q E : Value → Shared → Prop} {h₀ : Heap} {L : Addr} {m : Str → Option Value} {news : Led} {v1 v2 : Value} {k1 k2 : Knd}
    (G : Gr w h₀) (F : Fr h₀ L s.heap m) (N : News h₀ L s.heap news) (hdp : dp + 16 < recursionLimit) (hun : un + 200 < cLine) (x1 : FormK (Of news) k1 v1) (x2 : FormK (Of news) k2 v2)
    (ret : ∀ h' tk, Fr h₀ L h' m → News h₀ L h' news → Q (.bool (decide (k1 = k2))) { s with heap := h', toks := tk }) :
    wpAny (model PySem.Challenge.pw_xm0632_01 w) (AR dp un fs gd) (call (.ref 42) [v1, v2]) Q E s := by
  have inN : ∀ a o, Of news a o → At h₀ news a o := fun _ _ h => .inr h
  have D1 := x1.dl.up inN
  have D2 := x2.dl.up inN
  obtain ⟨b1, u1, u2, u3, u4, C1, rfl, a1, a2, a3⟩ := x1
  obtain ⟨b2, w1, w2, w3, w4, C2, rfl, c1, c2, c3⟩ := x2
  by_cases hk : k1 = k2
  · subst hk
    rw [decide_eq_true rfl] at ret
    by_cases he : k1 = none
    · rw [if_pos he] at a3 c3
      obtain ⟨y, p1, p2, p3, p4, Z, d1, d2, d3, d4⟩ := a3
      obtain ⟨y', q1, q2, q3, q4, Z', e1, e2, e3, e4⟩ := c3
      have Y1 : DL (At h₀ news) (.ref y) yD := (DL.tuple d2 rfl rfl rfl (DLs.append d4 (.cons (DL.tuple d3 rfl rfl rfl .nil) .nil))).up inN
      have Y2 : DL (At h₀ news) (.ref y') yD := (DL.tuple e2 rfl rfl rfl (DLs.append e4 (.cons (DL.tuple e3 rfl rfl rfl .nil) .nil))).up inN
      exact isSameEq1 G F N hdp hun a1 c1 d1 e1 d2 e2 d3 e3 (a2.up inN) (c2.up inN) ((headsOk _).le (by decide)) ((headsOk _).le (by decide)) (d4.up inN) (e4.up inN) (yHeadsOk.le (by decide)) (yHeadsOk.le (by decide)) D1 D2 ((formOk _).le (by decide)) ((formOk _).le (by decide)) Y1 Y2 (yOk.le (by decide)) (yOk.le (by decide)) (heads_eq _) yHeads_eq ret
    · rw [if_neg he] at a3 c3
      exact isSameEq0 G F N hdp hun a1 c1 a3 c3 (a2.up inN) (c2.up inN) ((headsOk _).le (by decide)) ((headsOk _).le (by decide)) D1 D2 ((formOk _).le (by decide)) ((formOk _).le (by decide)) (heads_eq _) ret
  · rw [decide_eq_false hk] at ret
    exact isSameNo G F N hdp hun a1 c1 (a2.up inN) (c2.up inN) ((headsOk _).le (by decide)) ((headsOk _).le (by decide)) D1 D2 ((formOk _).le (by decide)) ((formOk _).le (by decide)) (heads_ne hk) ret
/-- a list's forms -/
inductive FormsK (A : Addr → Obj → Prop) : List Knd → List Value → Prop
  | nil : FormsK A [] []
  | cons {k : Knd} {v : Value} {ks : List Knd} {vs : List Value} : FormK A k v → FormsK A ks vs → FormsK A (k :: ks) (v :: vs)
theorem FormsK.up {A B : Addr → Obj → Prop} (hs : ∀ a o, A a o → B a o) {ks : List Knd} {vs : List Value} (h : FormsK A ks vs) : FormsK B ks vs := by
  induction h with
  | nil => exact .nil
  | cons a _ ih => exact .cons (a.up hs) ih
theorem FormsK.length {A : Addr → Obj → Prop} {ks : List Knd} {vs : List Value} (h : FormsK A ks vs) : ks.length = vs.length := by
  induction h with
  | nil => rfl
  | cons _ _ ih => simp [ih]
theorem FormsK.append {A : Addr → Obj → Prop} {ks js : List Knd} {vs us : List Value} (h : FormsK A ks vs) (g : FormsK A js us) : FormsK A (ks ++ js) (vs ++ us) := by
  induction h with
  | nil => exact g
  | cons a _ ih => exact .cons a ih
theorem FormsK.dls {A : Addr → Obj → Prop} {ks : List Knd} {vs : List Value} (h : FormsK A ks vs) : DLs A vs (ks.map formD) := by
  induction h with
  | nil => exact .nil
  | cons a _ ih => exact .cons a.dl ih
theorem FormsK.at {A : Addr → Obj → Prop} {ks : List Knd} {vs : List Value} (h : FormsK A ks vs) : ∀ {i : Nat} {v : Value}, vs[i]? = some v → ∃ k, ks[i]? = some k ∧ FormK A k v := by
  induction h with
  | nil => intro i v e; simp at e
  | cons a _ ih =>
    intro i v e
    match i with
    | 0 => simp at e; subst e; exact ⟨_, rfl, a⟩
    | i + 1 => exact ih (i := i) (by simpa using e)
theorem boolsMap (f : Nat → Bool) : ∀ l : List Nat, LSm.BoolsAre (l.map fun i => Value.bool (f i)) (l.map f)
  | [] => .nil
  | i :: l => .cons (f i) (boolsMap f l)
theorem bools_of {vs : List Value} {n : Nat} {f : Nat → Bool} (hl : vs.length = n) (hV : ∀ (i : Nat) v, vs[i]? = some v → v = .bool (f i)) : LSm.BoolsAre vs ((List.range n).map f) := by
  have e : vs = (List.range n).map fun i => Value.bool (f i) := by
    apply List.ext_getElem?
    intro i
    cases h : vs[i]? with
    | none =>
      have : n ≤ i := by rw [← hl]; simpa using h
      simp [this]
    | some v =>
      have hi : i < n := by rw [← hl]; exact (List.getElem?_eq_some_iff.mp h).1
      rw [hV i v h]
      simp [hi]
  rw [e]
  exact boolsMap f _
theorem all_same {ks js : List Knd} (h : ks.length = js.length) : ((List.range ks.length).map fun i => decide (ks[i]? = js[i]?)).all id = decide (ks = js) := by
  by_cases e : ks = js
  · subst e
    rw [decide_eq_true rfl]
    simp
  · rw [decide_eq_false e]
    rw [Bool.eq_false_iff]
    intro q
    apply e
    apply List.ext_getElem?
    intro i
    by_cases hi : i < ks.length
    · have := List.all_eq_true.mp q (decide (ks[i]? = js[i]?)) (List.mem_map.mpr ⟨i, List.mem_range.mpr hi, rfl⟩)
      simpa using this
    · rw [List.getElem?_eq_none (by omega), List.getElem?_eq_none (by omega)]
end Mine
end

section
open PySem PySem.Spec PySem.W PyProof.Rows PySem.Calls PyProof.Rows.LCg
namespace Mine
theorem linesCAS1 : True := by
  k_with_none
  k_with "ne" => (refine neN ?_; (try dsimp only); first | with_reducible assumption | with_reducible exact Ne.symm (by with_reducible assumption) | exact Nat.ne_of_lt (by first | with_reducible assumption | ((refine ltC (by with_reducible assumption) ?_); (repeat (first | with_reducible exact takeL | with_reducible exact sameL | with_reducible refine skipL ?_)); done) | fail) | exact Ne.symm (Nat.ne_of_lt (by first | with_reducible assumption | ((refine ltC (by with_reducible assumption) ?_); (repeat (first | with_reducible exact takeL | with_reducible exact sameL | with_reducible refine skipL ?_)); done) | fail)) | omega)
  k_with "mem" => first | with_reducible assumption | ((with_reducible refine List.mem_cons_of_mem _ ?_); k_mem) | fail
  k_with "call builtin:len" => (k_here; (with_reducible show wpAny _ _ (call (Value.builtin "len") [Value.ref _]) _ _ _); k_dflt (refine' lenLst (by k_asm) (by first | k_mem | fail) (by with_reducible assumption) ?_))
  k_with "unf" => repeat' (first | (k_unfold; (try dsimp only)) | ((try dsimp only); w_not_for; (fail_if_success (with_reducible show wpAny _ _ (eval (PySem.Expr.ListComp _ _ _ _) _) _ _ _)); (fail_if_success (with_reducible show wpAny _ _ (call (Value.ref _) _) _ _ _)); (fail_if_success (with_reducible show wpAny _ _ (call (Value.type "zip") _) _ _ _)); (fail_if_success (with_reducible show wpAny _ _ (call (Value.builtin "all") _) _ _ _)); walk1) | fail "no step")
  trivial
theorem areSame {w : World} {dp un : Nat} {fs : Option (List Env)} {gd : Option (List Code)} {s : Shared} {Q E : Value → Shared → Prop} {h₀ : Heap} {L : Addr} {m : Str → Option Value} {news : Led} {l1 l2 : Addr} {ws1 ws2 : List Value} {c1 c2 : Nat} {ks1 ks2 : List Knd}
    (G : Gr w h₀) (F : Fr h₀ L s.heap m) (N : News h₀ L s.heap news) (hdp : dp + 32 < recursionLimit) (hun : un + 300 < cLine) (m1 : (l1, W.listOf ws1.toArray c1) ∈ news) (m2 : (l2, W.listOf ws2.toArray c2) ∈ news) (x1 : FormsK (Of news) ks1 ws1) (x2 : FormsK (Of news) ks2 ws2) (z1 : ws1.length ≤ 3) (z2 : ws2.length ≤ 3)
    (ret : ∀ h' tk, Fr h₀ L h' m → News h₀ L h' news → Q (.bool (decide (ks1 = ks2))) { s with heap := h', toks := tk }) :
    wpAny (model PySem.Challenge.pw_xm0632_01 w) (AR dp un fs gd) (call (.ref 47) [.ref l1, .ref l2]) Q E s := by
  obtain ⟨⟨loose, mean, mg, mb, T⟩, X⟩ := G
  refine wpAny_call ?_
  refine enterS [(Str.ofString "some", .ref l1), (Str.ofString "others", .ref l2)] news (fun _ h => h) X T F N (by k_is) (by k_is) (by omega) (BindsTo.of_eq rfl) (locs rfl) (by decide) rfl rfl rfl ?_
  intro g L' h₁ X' T' sg hAt back F' N' lt'
  have fin : ∀ h' tk m', Fr g L' h' m' → News g L' h' news → Q (.bool (decide (ks1 = ks2))) { s with heap := h', toks := tk } := by
    intro h' tk m' nF nN
    obtain ⟨bF, bN, -, -⟩ := back _ _ _ nF nN
    exact ret _ _ bF bN
  have y1 : ((ws1.toArray.size : Nat) : Int) < 8 := by simp; omega
  have y2 : ((ws2.toArray.size : Nat) : Int) < 8 := by simp; omega
  clear F N X T hAt back
  have kl1 := x1.length
  have kl2 := x2.length
  ktr_unf
  · with_reducible rename (_ : Int) = _ => heq
    have hl : ws1.length = ws2.length := by
      have := Int.ofNat.inj heq
      simpa using this
    have hkl : ks1.length = ks2.length := by omega
    clear heq
    refine comp_zip F' rfl (by rfl) (by decide) rfl (by decide) rfl rfl (by decide) (fun _ => rfl) ?_
    ktr_unf
    refine zipLN F' N' ⟨_, (N' _ m1).1, rfl, _, rfl⟩ ⟨_, (N' _ m2).1, rfl, _, rfl⟩ ?_
    intro z h2 F2 N2 ZF
    ktr_unf
    refine ⟨z, l1, l2, ws1.toArray, ws2.toArray, news, _, _, fun i v => v = .bool (decide (ks1[i]? = ks2[i]?)), rfl, F2, N2, ZF, .inr m1, .inr m2, by simpa using hl, by rw [sizeLine_eq]; simp; omega, ?_, ?_⟩
    · clear F2 N2 F' N'
      intro i x y C oC m₂ h tk nl R E' hx hy hoC ha hb F N hC sub kk
      have hx' : ws1[i]? = some x := by simpa using hx
      have hy' : ws2[i]? = some y := by simpa using hy
      obtain ⟨k1, e1, f1⟩ := x1.at hx'
      obtain ⟨k2, e2, f2⟩ := x2.at hy'
      clear x1 x2 m1 m2
      ktr_unf
      refine' isSameK (k1 := k1) (k2 := k2) (grOf T' X') ?F6 ?N6 ?d6 ?u6 (f1.up fun _ _ h => sub _ h) (f2.up fun _ _ h => sub _ h) ?_
      case F6 => k_asm
      case N6 => k_asm
      case d6 => (first | exact room hdp rfl | exact room hun rfl | (dsimp only [AR, Around.deeper]; omega))
      case u6 => (first | exact room hdp rfl | exact room hun rfl | (dsimp only [AR, Around.deeper]; omega))
      intro h' tk' F6 N6
      exact kk _ _ _ (by show _ = _; rw [e1, e2]; simp) F6 N6
    · clear F2 N2 F' N'
      intro D vs h tk hvl hV F N lt
      ktr_unf
      refine LSm.all_bools F N rfl ⟨_, (N _ (.head _)).1, rfl, _, rfl⟩ (bools_of hvl hV) ?_
      intro h' tk' F8 N8
      have hn : ws1.toArray.size = ks1.length := by simp; omega
      rw [hn, all_same hkl]
      ktr_unf
      exact fin _ _ _ F8 fun p hp => N8 p (.tail _ hp)
  · with_reducible rename (_ : Int) ≠ _ => hne
    have hkn : ¬ ks1 = ks2 := fun q => hne (by rw [q] at kl1; simp; omega)
    have e1 : (((ws1.toArray.size : Nat) : Int) == ((ws2.toArray.size : Nat) : Int)) = decide (ks1 = ks2) := by
      rw [decide_eq_false hkn]; simpa using hne
    rw [e1]
    exact fin _ _ _ F' N'
end Mine
end

section
open PySem PySem.Spec PySem.W PyProof.Rows PySem.Calls PyProof.Rows.LCg
namespace Mine
theorem eqYes {prog : Program} {w : World} {A : Around} {E : Value → Shared → Prop} {s : Shared} {g : Heap} {L : Addr} {m : Str → Option Value} {news : Led} {a b : Value} {da db : PyData} {Q : Value → Shared → Prop}
    (F : Fr g L s.heap m) (N : News g L s.heap news) (ra : DL (At g news) a da) (rb : DL (At g news) b db) (ha : OkD 12 da) (hb : OkD 12 db) (hu : A.units + 64 < cLine) (he : PyData.eqv da db = true)
    (h : Q (.bool true) s) : wpAny (model prog w) A (compareOp .Eq a b) Q E s :=
  eqDL F N ra rb (ha.shaped (by decide)) (hb.shaped (by decide)) hu (by rw [he]; exact h)
theorem eqNo {prog : Program} {w : World} {A : Around} {E : Value → Shared → Prop} {s : Shared} {g : Heap} {L : Addr} {m : Str → Option Value} {news : Led} {a b : Value} {da db : PyData} {Q : Value → Shared → Prop}
    (F : Fr g L s.heap m) (N : News g L s.heap news) (ra : DL (At g news) a da) (rb : DL (At g news) b db) (ha : OkD 12 da) (hb : OkD 12 db) (hu : A.units + 64 < cLine) (he : PyData.eqv da db = false)
    (h : Q (.bool false) s) : wpAny (model prog w) A (compareOp .Eq a b) Q E s :=
  eqDL F N ra rb (ha.shaped (by decide)) (hb.shaped (by decide)) hu (by rw [he]; exact h)
noncomputable abbrev formsD (ks : List Knd) : PyData := .list (ks.map formD)
theorem formsD_eq : ∀ ks js : List Knd, PyData.eqv (formsD ks) (formsD js) = decide (ks = js) := by
  have key : ∀ ks js : List Knd, PyData.eqvAll (ks.map formD) (js.map formD) = decide (ks = js) := by
    intro ks
    induction ks with
    | nil => intro js; cases js <;> rfl
    | cons k ks ih =>
      intro js
      cases js with
      | nil => rfl
      | cons j js =>
        show (PyData.eqv (formD k) (formD j) && PyData.eqvAll (ks.map formD) (js.map formD)) = _
        rw [formD_inj, ih]
        by_cases h1 : k = j <;> by_cases h2 : ks = js <;> simp [h1, h2]
  intro ks js
  exact key ks js
theorem formsDOk (ks : List Knd) : OkD 7 (formsD ks) := .list (formsOk ks)
noncomputable def insD (ks js : List Knd) (pd : PyData) (pl : Int) : PyData :=
  if js = [] ∨ ks = js then .tuple [formsD ks, .list []] else if ks = [] then .tuple [formsD js, .list []] else .tuple [formsD (ks ++ js), .list [.tuple [.str "inserted", pd, .int pl]]]
noncomputable def dueI (ks js : List Knd) (pd : PyData) (pl : Int) : PyData :=
  if ks = js ∨ ks = [] ∨ js = [] then .tuple [formsD (if ks = [] then js else ks), .list []] else .tuple [formsD (ks ++ js), .list [.tuple [.str "inserted", pd, .int pl]]]
theorem ins_due (ks js : List Knd) (pd : PyData) (pl : Int) : insD ks js pd pl = dueI ks js pd pl := by
  unfold insD dueI
  by_cases h1 : js = []
  · subst h1
    by_cases h2 : ks = [] <;> simp [h2]
  · by_cases h2 : ks = js
    · subst h2
      simp [h1]
    · by_cases h3 : ks = [] <;> simp [h1, h2, h3]
theorem insOk {ks js : List Knd} {pd : PyData} {pl : Int} (hpd : OkD 3 pd) : OkD 9 (insD ks js pd pl) := by
  unfold insD
  split
  · exact .tuple (.cons ((formsDOk _).le (by decide)) (.cons (.list .nil) .nil))
  · split
    · exact .tuple (.cons ((formsDOk _).le (by decide)) (.cons (.list .nil) .nil))
    · exact .tuple (.cons ((formsDOk _).le (by decide)) (.cons (.list (.cons (.tuple (.cons (.str (by decide +kernel)) (.cons (hpd.le (by decide)) (.cons (.int _) .nil)))) .nil)) .nil))
end Mine
end

section
open PySem PySem.Spec PySem.W PyProof.Rows PySem.Calls PyProof.Rows.LCg
namespace Mine
section
variable {w : World} {dp un : Nat} {fs : Option (List Env)} {gd : Option (List Code)} {s : Shared} {Q E : Value → Shared → Prop} {h₀ : Heap} {L : Addr} {m : Str → Option Value} {news : Led} {l1 l2 : Addr} {ws1 ws2 : List Value} {c1 c2 : Nat} {ks1 ks2 : List Knd}
theorem areSameB {b : Bool}
    (G : Gr w h₀) (F : Fr h₀ L s.heap m) (N : News h₀ L s.heap news) (hdp : dp + 32 < recursionLimit) (hun : un + 300 < cLine) (m1 : (l1, W.listOf ws1.toArray c1) ∈ news) (m2 : (l2, W.listOf ws2.toArray c2) ∈ news) (x1 : FormsK (Of news) ks1 ws1) (x2 : FormsK (Of news) ks2 ws2) (z1 : ws1.length ≤ 3) (z2 : ws2.length ≤ 3) (hb : decide (ks1 = ks2) = b)
    (ret : ∀ h' tk, Fr h₀ L h' m → News h₀ L h' news → Q (.bool b) { s with heap := h', toks := tk }) :
    wpAny (model PySem.Challenge.pw_xm0632_01 w) (AR dp un fs gd) (call (.ref 47) [.ref l1, .ref l2]) Q E s := areSame G F N hdp hun m1 m2 x1 x2 z1 z2 (by rw [hb]; exact ret)
theorem formsUp {tl tl' : Led} {ks : List Knd} {vs : List Value} (x : FormsK (Of tl) ks vs) (h : ∀ p ∈ tl, p ∈ tl') : FormsK (Of tl') ks vs := x.up fun _ _ q => h _ q
end
theorem linesCN21 : True := by
  k_with_none
  k_with "ne" => (refine neN ?_; (try dsimp only); first | with_reducible assumption | with_reducible exact Ne.symm (by with_reducible assumption) | exact Nat.ne_of_lt (by first | with_reducible assumption | ((refine ltC (by with_reducible assumption) ?_); (repeat (first | with_reducible exact takeL | with_reducible exact sameL | with_reducible refine skipL ?_)); done) | fail) | exact Ne.symm (Nat.ne_of_lt (by first | with_reducible assumption | ((refine ltC (by with_reducible assumption) ?_); (repeat (first | with_reducible exact takeL | with_reducible exact sameL | with_reducible refine skipL ?_)); done) | fail)) | omega)
  k_with "in" => first | with_reducible exact DL.none | with_reducible exact DL.bool _ | with_reducible exact DL.int _ _ | with_reducible exact DL.str _ _ | with_reducible assumption | ((refine' dlUp (by with_reducible assumption) (by first | ((repeat (with_reducible refine sub_tl ?_)); exact fun _ h => h) | fail))) | ((refine' dlsUp (by with_reducible assumption) (by first | ((repeat (with_reducible refine sub_tl ?_)); exact fun _ h => h) | fail))) | with_reducible exact DLs.nil | ((with_reducible show DLs _ _ _); refine' DLs.cons (by first | kqd_in | fail) (by first | kqd_in | fail)) | (refine' dlTup (by first | k_mem | fail) (by first | (exact rfl) | fail) (by first | kqd_in | fail)) | (refine' dlLst (by first | k_mem | fail) (by first | (exact rfl) | fail) (by first | kqd_in | fail)) | fail
  k_with "all" => first | with_reducible assumption | exact OkD.le (by with_reducible assumption) (by decide) | exact OkDs.le (by with_reducible assumption) (by decide) | with_reducible exact OkD.none | with_reducible exact OkD.bool _ | with_reducible exact OkD.int _ | ((with_reducible refine OkD.str ?_); first | with_reducible assumption | decide +kernel) | with_reducible exact OkDs.nil | ((with_reducible refine OkDs.cons ?_ ?_) <;> kqd_all) | ((with_reducible refine OkD.tuple ?_); kqd_all) | ((with_reducible refine OkD.list ?_); kqd_all) | fail
  k_with "sub" => ((try simp only [depth_under_make, depth_under_kw, depth_in1, depth_deeper, depth_caller, units_in1, units_deeper]); (try dsimp only [AR]); omega)
  k_with "mem" => first | with_reducible assumption | with_reducible exact List.Mem.head _ | ((with_reducible refine List.mem_cons_of_mem _ ?_); k_mem) | fail
  k_with "compareOp Eq ref ref" => (k_here; k_dflt (refine' eqYes (by k_asm) (by k_asm) (by first | kqd_in | fail) (by first | kqd_in | fail) (by first | kqd_all | fail) (by first | kqd_all | fail) (by first | ktr_units | fail) (by with_reducible assumption) ?_; k_whole))
  k_with "compareOp Eq ref ref" => (k_here; k_dflt (refine' eqNo (by k_asm) (by k_asm) (by first | kqd_in | fail) (by first | kqd_in | fail) (by first | kqd_all | fail) (by first | kqd_all | fail) (by first | ktr_units | fail) (by with_reducible assumption) ?_; k_whole))
  k_with "call ref" => (k_here; (with_reducible show wpAny _ _ (call (Value.ref 47) [_, _]) _ _ _); k_dflt (refine' areSameB (grOf (by k_asm) (by k_asm)) (by k_asm) (by k_asm) (by first | kqd_sub | fail) (by first | kqd_sub | fail) (by first | k_mem | fail) (by first | k_mem | fail) (formsUp (by with_reducible assumption) (by first | ((repeat (with_reducible refine sub_tl ?_)); exact fun _ h => h) | fail)) (formsUp (by with_reducible assumption) (by first | ((repeat (with_reducible refine sub_tl ?_)); exact fun _ h => h) | fail)) (by with_reducible assumption) (by with_reducible assumption) (by with_reducible assumption) ?_; k_whole); intro wh' wtk' wF' wN'; (try k_sweep))
  k_with "binaryOp Add ref ref" => (k_here; k_dflt (refine' addL (by k_asm) (by k_asm) (by first | k_mem | fail) (by first | k_mem | fail) (by with_reducible assumption) ?_; k_whole); intro wD' wh' wF' wN' wl1; (try dsimp only [AllLt] at wl1); (try k_sweep))
  k_with "unf" => repeat' (first | (k_unfold; (try dsimp only)) | ((try dsimp only); w_not_for; walk1) | fail "no step")
  trivial
theorem mergedIns {w : World} {dp un : Nat} {fs : Option (List Env)} {gd : Option (List Code)} {s : Shared} {Q E : Value → Shared → Prop} {h₀ : Heap} {L : Addr} {m : Str → Option Value} {news : Led} {l1 l2 : Addr} {ws1 ws2 : List Value} {c1 c2 : Nat} {ks1 ks2 : List Knd} {path : Value} {pd : PyData} {pl : Int} {pt : Tok}
    (G : Gr w h₀) (F : Fr h₀ L s.heap m) (N : News h₀ L s.heap news) (hdp : dp + 48 < recursionLimit) (hun : un + 400 < cLine) (m1 : (l1, W.listOf ws1.toArray c1) ∈ news) (m2 : (l2, W.listOf ws2.toArray c2) ∈ news) (x1 : FormsK (Of news) ks1 ws1) (x2 : FormsK (Of news) ks2 ws2) (z1 : ws1.length ≤ 3) (z2 : ws2.length ≤ 3) (hp : DL (At h₀ news) path pd) (hpd : OkD 3 pd)
    (ret : ∀ R nl h' tk, Fr h₀ L h' m → News h₀ L h' (nl ++ news) → DL (At h₀ (nl ++ news)) (.ref R) (insD ks1 ks2 pd pl) → Q (.ref R) { s with heap := h', toks := tk }) :
    wpAny (model PySem.Challenge.pw_xm0632_01 w) (AR dp un fs gd) (call (.ref 71) [.ref l1, .ref l2, path, .int pl pt]) Q E s := by
  obtain ⟨⟨loose, mean, mg, mb, T⟩, X⟩ := G
  refine wpAny_call ?_
  refine enterS [(Str.ofString "ours", .ref l1), (Str.ofString "theirs", .ref l2), (Str.ofString "path", path), (Str.ofString "place", .int pl pt)] news (fun _ h => h) X T F N (by k_is) (by k_is) (by omega) (BindsTo.of_eq rfl) (locs rfl) (by decide) rfl rfl rfl ?_
  intro g L' h₁ X' T' sg hAt back F' N' lt'
  have d1 : DL (At g news) (.ref l1) (formsD ks1) := DL.list (.inr m1) rfl rfl rfl (x1.dls.up fun _ _ h => .inr h)
  have d2 : DL (At g news) (.ref l2) (formsD ks2) := DL.list (.inr m2) rfl rfl rfl (x2.dls.up fun _ _ h => .inr h)
  have o1 := formsDOk ks1
  have o2 := formsDOk ks2
  have fin : ∀ R nl h' tk m', Fr g L' h' m' → News g L' h' (nl ++ news) → DL (At h₀ (nl ++ news)) (.ref R) (insD ks1 ks2 pd pl) → Q (.ref R) { s with heap := h', toks := tk } := by
    intro R nl h' tk m' nF nN hd
    obtain ⟨bF, bN, -, -⟩ := back _ _ _ nF nN
    exact ret _ nl _ _ bF bN hd
  have e1 : DL (At h₀ news) (.ref l1) (formsD ks1) := DL.list (.inr m1) rfl rfl rfl (x1.dls.up fun _ _ h => .inr h)
  have e2 : DL (At h₀ news) (.ref l2) (formsD ks2) := DL.list (.inr m2) rfl rfl rfl (x2.dls.up fun _ _ h => .inr h)
  have s0 : ws1.length + ws2.length ≤ 16 := by omega
  clear F N X T hAt back
  by_cases h2 : ks2 = []
  · have q2 : PyData.eqv (formsD ks2) (.list []) = true := (formsD_eq ks2 []).trans (by simp [h2])
    ktr_unf
    with_reducible rename News g L' _ _ => nN
    with_reducible rename Fr g L' _ _ => nF
    refine fin _ [_, _, _] _ _ _ nF nN ?_
    rw [show insD ks1 ks2 pd pl = .tuple [formsD ks1, .list []] from if_pos (.inl h2)]
    exact DL.tuple (.inr (.head _)) rfl rfl rfl (.cons (e1.up (At.up fun p hp => .tail _ (.tail _ (.tail _ hp)))) (.cons (DL.list (.inr (.tail _ (.head _))) rfl rfl rfl .nil) .nil))
  · have q2 : PyData.eqv (formsD ks2) (.list []) = false := (formsD_eq ks2 []).trans (by simp [h2])
    by_cases h1 : ks1 = ks2
    · have qs : decide (ks1 = ks2) = true := by simp [h1]
      ktr_unf
      with_reducible rename News g L' _ _ => nN
      with_reducible rename Fr g L' _ _ => nF
      refine fin _ [_, _, _] _ _ _ nF nN ?_
      rw [show insD ks1 ks2 pd pl = .tuple [formsD ks1, .list []] from if_pos (.inr h1)]
      exact DL.tuple (.inr (.head _)) rfl rfl rfl (.cons (e1.up (At.up fun p hp => .tail _ (.tail _ (.tail _ hp)))) (.cons (DL.list (.inr (.tail _ (.head _))) rfl rfl rfl .nil) .nil))
    · have qs : decide (ks1 = ks2) = false := by simp [h1]
      by_cases h0 : ks1 = []
      · have q1 : PyData.eqv (formsD ks1) (.list []) = true := (formsD_eq ks1 []).trans (by simp [h0])
        ktr_unf
        with_reducible rename News g L' _ _ => nN
        with_reducible rename Fr g L' _ _ => nF
        refine fin _ [_, _, _, _] _ _ _ nF nN ?_
        rw [show insD ks1 ks2 pd pl = .tuple [formsD ks2, .list []] from (if_neg fun q => q.elim h2 h1).trans (if_pos h0)]
        exact DL.tuple (.inr (.head _)) rfl rfl rfl (.cons (e2.up (At.up fun p hp => .tail _ (.tail _ (.tail _ (.tail _ hp))))) (.cons (DL.list (.inr (.tail _ (.head _))) rfl rfl rfl .nil) .nil))
      · have q1 : PyData.eqv (formsD ks1) (.list []) = false := (formsD_eq ks1 []).trans (by simp [h0])
        ktr_unf
        with_reducible rename News g L' _ _ => nN
        with_reducible rename Fr g L' _ _ => nF
        refine fin _ [_, _, _, _, _, _] _ _ _ nF nN ?_
        rw [show insD ks1 ks2 pd pl = .tuple [formsD (ks1 ++ ks2), .list [.tuple [.str "inserted", pd, .int pl]]] from (if_neg fun q => q.elim h2 h1).trans (if_neg h0)]
        refine DL.tuple (.inr (.head _)) rfl rfl rfl (.cons (DL.list (.inr (.tail _ (.tail _ (.tail _ (.head _))))) rfl rfl rfl (((x1.append x2).dls).up fun _ _ h => .inr (.tail _ (.tail _ (.tail _ (.tail _ (.tail _ (.tail _ h)))))))) (.cons (DL.list (.inr (.tail _ (.head _))) rfl rfl rfl (.cons (DL.tuple (.inr (.tail _ (.tail _ (.head _)))) rfl rfl rfl (.cons (.str _ _) (.cons ?_ (.cons (.int _ _) .nil)))) .nil)) .nil))
        exact hp.up (At.up fun p hp => .tail _ (.tail _ (.tail _ (.tail _ (.tail _ (.tail _ hp))))))
end Mine
end

section
open PySem PySem.Spec PySem.W PyProof.Rows PySem.Calls PyProof.Rows.LCg
namespace Mine
theorem forms_of {A : Addr → Obj → Prop} : ∀ {ys : List Value}, (∀ y ∈ ys, ∃ k, FormK A k y) → ∃ ks, FormsK A ks ys
  | [], _ => ⟨[], .nil⟩
  | y :: ys, h => by
    obtain ⟨k, hk⟩ := h y (.head _)
    obtain ⟨ks, hks⟩ := forms_of fun z hz => h z (.tail _ hz)
    exact ⟨k :: ks, .cons hk hks⟩
theorem allTup_nil : ∀ p ∈ ([] : Led), p.2.cls = .type "tuple" := fun _ h => absurd h List.not_mem_nil
theorem allTup_cons {a : Addr} {o : Obj} {l : Led} (h : o.cls = .type "tuple") (r : ∀ p ∈ l, p.2.cls = .type "tuple") : ∀ p ∈ (a, o) :: l, p.2.cls = .type "tuple" := fun p hp => by
  cases hp with
  | head => exact h
  | tail _ hp => exact r p hp
/-- the menu's forms stand -/
theorem standF {g h : Heap} {L S R ml lc ln lab De Ce Ae Dy e1y e2y Db e1b e2b Da e1a e2a c1 c2 : Addr} {so mo oc on' x1 x2 : Obj} {ys : List Value} {t1 t2 t3 t4 t5 t6 t7 t8 t9 t10 t11 t12 t13 t14 : Tok}
    (N : News g L h [(R, lst ys), (ml, mo), (De, tup [.str "element" t1, .ref lab, .str "" t2, .ref Ae, .ref Ce]), (Ce, tup [.ref Dy]), (Ae, tup []), (lc, oc), (Dy, tup [.str "text" t3, .str "" t4, .str "y" t5, .ref e1y, .ref e2y]), (e2y, tup []), (e1y, tup []), (ln, on'), (lab, tup [.str "e" t6, .str "" t7, .str "e" t8]),
      (Db, tup [.str "comment" t9, .str "" t10, .str "x" t11, .ref e1b, .ref e2b]), (e2b, tup []), (e1b, tup []), (Da, tup [.str "text" t12, .str "" t13, .str "x" t14, .ref e1a, .ref e2a]), (e2a, tup []), (e1a, tup []), (c1, x1), (c2, x2), (S, so)]) (ho : SrcO so) :
    ∃ NL, News g L h ((R, lst ys) :: (NL ++ [(S, so)])) ∧ (∀ p ∈ NL, @Ne Nat p.1 S) ∧ FormK (Of NL) (some true) (.ref Da) ∧ FormK (Of NL) (some false) (.ref Db) ∧ FormK (Of NL) none (.ref De) := by
  obtain ⟨NL, hNL⟩ : ∃ l : Led, l = [(De, tup [.str "element" t1, .ref lab, .str "" t2, .ref Ae, .ref Ce]), (Ce, tup [.ref Dy]), (Ae, tup []), (Dy, tup [.str "text" t3, .str "" t4, .str "y" t5, .ref e1y, .ref e2y]), (e2y, tup []), (e1y, tup []), (lab, tup [.str "e" t6, .str "" t7, .str "e" t8]),
      (Db, tup [.str "comment" t9, .str "" t10, .str "x" t11, .ref e1b, .ref e2b]), (e2b, tup []), (e1b, tup []), (Da, tup [.str "text" t12, .str "" t13, .str "x" t14, .ref e1a, .ref e2a]), (e2a, tup []), (e1a, tup [])] := ⟨_, rfl⟩
  have hsub : ∀ p ∈ NL, p ∈ [(R, lst ys), (ml, mo), (De, tup [.str "element" t1, .ref lab, .str "" t2, .ref Ae, .ref Ce]), (Ce, tup [.ref Dy]), (Ae, tup []), (lc, oc), (Dy, tup [.str "text" t3, .str "" t4, .str "y" t5, .ref e1y, .ref e2y]), (e2y, tup []), (e1y, tup []), (ln, on'), (lab, tup [.str "e" t6, .str "" t7, .str "e" t8]),
      (Db, tup [.str "comment" t9, .str "" t10, .str "x" t11, .ref e1b, .ref e2b]), (e2b, tup []), (e1b, tup []), (Da, tup [.str "text" t12, .str "" t13, .str "x" t14, .ref e1a, .ref e2a]), (e2a, tup []), (e1a, tup []), (c1, x1), (c2, x2), (S, so)] := by
    rw [hNL]
    repeat (first | exact subNil | with_reducible refine subKeep ?_ | with_reducible refine subSkip ?_)
  have hS := N (S, so) (by repeat (first | with_reducible exact List.mem_cons_self | refine List.mem_cons_of_mem _ ?_))
  have hc : ∀ p ∈ NL, p.2.cls = .type "tuple" := by
    rw [hNL]
    repeat (first | exact allTup_nil | refine allTup_cons rfl ?_)
  have mDe : (De, tup [.str "element" t1, .ref lab, .str "" t2, .ref Ae, .ref Ce]) ∈ NL := by rw [hNL]; repeat (first | with_reducible exact List.mem_cons_self | refine List.mem_cons_of_mem _ ?_)
  have mCe : (Ce, tup [.ref Dy]) ∈ NL := by rw [hNL]; repeat (first | with_reducible exact List.mem_cons_self | refine List.mem_cons_of_mem _ ?_)
  have mAe : (Ae, tup []) ∈ NL := by rw [hNL]; repeat (first | with_reducible exact List.mem_cons_self | refine List.mem_cons_of_mem _ ?_)
  have mDy : (Dy, tup [.str "text" t3, .str "" t4, .str "y" t5, .ref e1y, .ref e2y]) ∈ NL := by rw [hNL]; repeat (first | with_reducible exact List.mem_cons_self | refine List.mem_cons_of_mem _ ?_)
  have m2y : (e2y, tup []) ∈ NL := by rw [hNL]; repeat (first | with_reducible exact List.mem_cons_self | refine List.mem_cons_of_mem _ ?_)
  have m1y : (e1y, tup []) ∈ NL := by rw [hNL]; repeat (first | with_reducible exact List.mem_cons_self | refine List.mem_cons_of_mem _ ?_)
  have mlab : (lab, tup [.str "e" t6, .str "" t7, .str "e" t8]) ∈ NL := by rw [hNL]; repeat (first | with_reducible exact List.mem_cons_self | refine List.mem_cons_of_mem _ ?_)
  have mDb : (Db, tup [.str "comment" t9, .str "" t10, .str "x" t11, .ref e1b, .ref e2b]) ∈ NL := by rw [hNL]; repeat (first | with_reducible exact List.mem_cons_self | refine List.mem_cons_of_mem _ ?_)
  have m2b : (e2b, tup []) ∈ NL := by rw [hNL]; repeat (first | with_reducible exact List.mem_cons_self | refine List.mem_cons_of_mem _ ?_)
  have m1b : (e1b, tup []) ∈ NL := by rw [hNL]; repeat (first | with_reducible exact List.mem_cons_self | refine List.mem_cons_of_mem _ ?_)
  have mDa : (Da, tup [.str "text" t12, .str "" t13, .str "x" t14, .ref e1a, .ref e2a]) ∈ NL := by rw [hNL]; repeat (first | with_reducible exact List.mem_cons_self | refine List.mem_cons_of_mem _ ?_)
  have m2a : (e2a, tup []) ∈ NL := by rw [hNL]; repeat (first | with_reducible exact List.mem_cons_self | refine List.mem_cons_of_mem _ ?_)
  have m1a : (e1a, tup []) ∈ NL := by rw [hNL]; repeat (first | with_reducible exact List.mem_cons_self | refine List.mem_cons_of_mem _ ?_)
  refine ⟨NL, fun p hp => ?_, fun p hp q => ?_, ?_, ?_, ?_⟩
  · rcases List.mem_cons.mp hp with rfl | hp
    · exact N _ (.head _)
    · rcases List.mem_append.mp hp with hp | hp
      · exact N _ (hsub p hp)
      · rw [List.mem_singleton.mp hp]; exact hS
  · have e1 := (N _ (hsub p hp)).1
    have e2 := hS.1
    rw [q] at e1
    rw [e1] at e2
    have e3 := hc p hp
    injection e2 with e2
    rw [e2] at e3
    obtain ⟨a, ta, b, tb, n, rfl⟩ := ho
    simp [W.listOf] at e3
  · exact ⟨Da, _, _, _, _, e2a, rfl, mDa, .cons (.str _ _) (.cons (.str _ _) (.cons (.str _ _) (.cons (DL.tuple m1a rfl rfl rfl .nil) .nil))), m2a⟩
  · exact ⟨Db, _, _, _, _, e2b, rfl, mDb, .cons (.str _ _) (.cons (.str _ _) (.cons (.str _ _) (.cons (DL.tuple m1b rfl rfl rfl .nil) .nil))), m2b⟩
  · refine ⟨De, _, _, _, _, Ce, rfl, mDe, .cons (.str _ _) (.cons (DL.tuple mlab rfl rfl rfl (.cons (.str _ _) (.cons (.str _ _) (.cons (.str _ _) .nil)))) (.cons (.str _ _) (.cons (DL.tuple mAe rfl rfl rfl .nil) .nil))), ?_⟩
    rw [if_pos rfl]
    exact ⟨Dy, _, _, _, _, e2y, mCe, mDy, m2y, .cons (.str _ _) (.cons (.str _ _) (.cons (.str _ _) (.cons (DL.tuple m1y rfl rfl rfl .nil) .nil)))⟩
theorem linesCL1 : True := by
  k_with_none
  k_with "ne" => (refine neN ?_; (try dsimp only); first | with_reducible assumption | with_reducible exact Ne.symm (by with_reducible assumption) | exact Nat.ne_of_lt (by first | with_reducible assumption | ((refine ltC (by with_reducible assumption) ?_); (repeat (first | with_reducible exact takeL | with_reducible exact sameL | with_reducible refine skipL ?_)); done) | fail) | exact Ne.symm (Nat.ne_of_lt (by first | with_reducible assumption | ((refine ltC (by with_reducible assumption) ?_); (repeat (first | with_reducible exact takeL | with_reducible exact sameL | with_reducible refine skipL ?_)); done) | fail)) | omega)
  k_with "unf" => repeat' (first | (k_unfold; (try dsimp only)) | ((try dsimp only); w_not_for; (fail_if_success (with_reducible show wpAny _ _ (eval (PySem.Expr.ListComp _ _ _ _) _) _ _ _)); (fail_if_success (with_reducible show wpAny _ _ (call (Value.ref _) _) _ _ _)); walk1) | fail "no step")
  trivial
theorem lawSome {w : World} {dp un : Nat} {fs : Option (List Env)} {gd : Option (List Code)} {s : Shared} {Q E : Value → Shared → Prop} {h₀ : Heap} {L : Addr} {m : Str → Option Value} {news : Led} {S : Addr} {o : Obj} {up : Obj → Led}
    (G : Gr w h₀) (F : Fr h₀ L s.heap m) (N : News h₀ L s.heap news) (hdp : dp + 64 < recursionLimit) (hun : un + 400 < cLine) (U : UpdF S o news up) (ho : SrcO o)
    (ret : ∀ D ks vs nl o' h' tk, FormsK (Of nl) ks vs → vs.length ≤ 3 → SrcO o' → Fr h₀ L h' m → News h₀ L h' ((D, lst vs) :: (nl ++ up o')) → (∀ p ∈ nl, @Ne Nat p.1 S) → @Ne Nat D S → Q (.ref D) { s with heap := h', toks := tk }) :
    wpAny (model PySem.Challenge.pw_xm0632_01 w) (AR dp un fs gd) (call (.ref 116) [.ref S]) Q E s := by
  obtain ⟨⟨loose, mean, mg, mb, T⟩, X⟩ := G
  obtain ⟨pre, post, rfl, hup, hpre, hpost⟩ := U.split
  refine wpAny_call ?_
  refine enterSC [(Str.ofString "source", .ref S)] [(S, o)] (fun p h => by rw [List.mem_singleton.mp h]; exact List.mem_append_right _ (.head _)) X T F N (by k_is) (by k_is) (by omega) (BindsTo.of_eq rfl) rfl (by decide +kernel) rfl rfl rfl ?_
  intro g L' h₁ tk0 cells X' T' sg hAt back F' N' Y' lt'
  have hSL : @LT.lt Nat _ S L' := lt' (S, o) (List.mem_append_right _ (.head _))
  k_cells Y'
  simp only [List.cons_append, List.nil_append] at N'
  ktr_unf
  refine' textf (grOf T' X') ?Fa ?Na ?da ?ua ?_
  case Fa => k_asm
  case Na => k_asm
  case da => (first | exact room hdp rfl | exact room hun rfl | (dsimp only [AR, Around.deeper]; omega))
  case ua => (first | exact room hdp rfl | exact room hun rfl | (dsimp only [AR, Around.deeper]; omega))
  intro Da e1a e2a ha tka t1a t2a nFa nNa l1a l2a l3a
  simp only [AllLt] at l1a l2a l3a
  ktr_unf
  refine' commentf (grOf T' X') ?Fb ?Nb ?db ?ub ?_
  case Fb => k_asm
  case Nb => k_asm
  case db => (first | exact room hdp rfl | exact room hun rfl | (dsimp only [AR, Around.deeper]; omega))
  case ub => (first | exact room hdp rfl | exact room hun rfl | (dsimp only [AR, Around.deeper]; omega))
  intro Db e1b e2b hb tkb t1b t2b nFb nNb l1b l2b l3b
  simp only [AllLt] at l1b l2b l3b
  ktr_unf
  refine' textf (grOf T' X') ?Fy ?Ny ?dy ?uy ?_
  case Fy => k_asm
  case Ny => k_asm
  case dy => (first | exact room hdp rfl | exact room hun rfl | (dsimp only [AR, Around.deeper]; omega))
  case uy => (first | exact room hdp rfl | exact room hun rfl | (dsimp only [AR, Around.deeper]; omega))
  intro Dy e1y e2y hy tky t1y t2y nFy nNy l1y l2y l3y
  simp only [AllLt] at l1y l2y l3y
  ktr_unf
  refine' elementForm (ts := []) (ys := []) (c := 0) (c2 := 0) (ws := [.ref Dy]) (grOf T' X') ?Fe ?Ne ?de ?ue ?Ae ?Ce (by simp) .nil ?re (by simp) ?_
  case Fe => k_asm
  case Ne => k_asm
  case de => (first | exact room hdp rfl | exact room hun rfl | (dsimp only [AR, Around.deeper]; omega))
  case ue => (first | exact room hdp rfl | exact room hun rfl | (dsimp only [AR, Around.deeper]; omega))
  case Ae => exact .tail _ (.tail _ (.tail _ (.tail _ (.head _))))
  case Ce => exact .head _
  case re => exact .nil
  intro De Ae Ce t1e t2e he tke nFe nNe l1e l2e l3e
  simp only [AllLt] at l1e l2e l3e
  ktr_unf
  refine' comp_rng ?F1x rfl ?C1x (by decide) rfl (by decide) (fun _ => rfl) ?_
  case F1x => k_asm
  case C1x => with_unfolding_all rfl
  ktr_unf
  refine' lawTake (S := S) (top := 4) (grOf T' X') ?F5 ?N5 ?d5 ?u5 ?U5 ho (by decide) (by decide) ?_
  case F5 => k_asm
  case N5 => k_asm
  case d5 => (first | exact room hdp rfl | exact room hun rfl | (dsimp only [AR, Around.deeper]; omega))
  case u5 => (first | exact room hdp rfl | exact room hun rfl | (dsimp only [AR, Around.deeper]; omega))
  case U5 => k_updF
  intro r tr o5 h5 tk5 r0 r4 ho5 nF5 nN5
  (try dsimp only at nN5)
  ktr_unf
  refine' takings (S := S) (grOf T' X') ?F2x ?N2x ?d2x ?u2x ?r2x (n := r.toNat) ?b2x ?n3x rfl (by rfl) ?U2x ?o2x ?T2x ?n2x ?l2x ?h2x ?e2x ?_
  case F2x => k_asm
  case N2x => k_asm
  case d2x => (first | exact room hdp rfl | exact room hun rfl | (dsimp only [AR, Around.deeper]; omega))
  case u2x => (first | exact room hdp rfl | exact room hun rfl | (dsimp only [AR, Around.deeper]; omega))
  case r2x =>
    with_reducible rename IsRange _ _ _ _ _ _ _ _ => rgX
    exact rgX
  case b2x => omega
  case n3x => omega
  case U2x => k_updF
  case o2x => with_reducible assumption
  case T2x => exact List.Mem.head _
  case n2x => omega
  case l2x => simp
  case h2x => simp
  case e2x =>
    intro C oC I oI D ys o' h tk m₂ R E' F₁ N₁ hoC hcall
    (try dsimp only at N₁)
    ktr_unf
    exact hcall
  intro Rx ysx sox hhx ttx hyx hmx hsx nFx nNx offx
  ktr_unf
  obtain ⟨NL, nN, nS, f1, f2, f3⟩ := standF nNx hsx
  obtain ⟨ks, hks⟩ := forms_of (A := Of NL) (ys := ysx) (fun y hy => by
    have := hmx y hy
    simp only [List.mem_cons, List.not_mem_nil, or_false] at this
    rcases this with rfl | rfl | rfl
    · exact ⟨_, f1⟩
    · exact ⟨_, f2⟩
    · exact ⟨_, f3⟩)
  obtain ⟨bF, bN, bo, -⟩ := back _ _ _ nFx nN
  refine ret Rx ks ysx NL sox _ _ hks (by omega) hsx bF ?_ nS (Ne.symm (Nat.ne_of_lt (allLt_all _ offx (S, sox) (by simp))))
  rw [hup]
  intro p hp
  rcases List.mem_cons.mp hp with rfl | hp
  · exact bN _ (.head _)
  rcases List.mem_append.mp hp with hp | hp
  · exact bN _ (.tail _ (List.mem_append_left _ hp))
  rcases List.mem_append.mp hp with hp | hp
  · exact ⟨bo p (List.mem_append_left _ hp) (by simpa using hpre p hp), (N p (List.mem_append_left _ hp)).2⟩
  · rcases List.mem_cons.mp hp with rfl | hp
    · exact bN _ (.tail _ (List.mem_append_right _ (.head _)))
    · exact ⟨bo p (List.mem_append_right _ (.tail _ hp)) (by simpa using hpost p hp), (N p (List.mem_append_right _ (.tail _ hp))).2⟩
end Mine
end

section
open PySem PySem.Spec PySem.W PyProof.Rows PySem.Calls PyProof.Rows.LCg
namespace Mine
/-- what stands when both lists of forms are drawn -/
inductive Drawn2 (g : Heap) (L S : Addr) (path : Value) (r : Int) (tr : Tok) (D1 : Addr) (v : Value) (s' : Shared) (s : Shared) : Prop
  | mk (D2 : Addr) (vs1 vs2 : List Value) (c1 c2 : Nat) (ks1 ks2 : List Knd) (tl : Led) (o3 : Obj) (m' : Str → Option Value) (h : Heap) (tk : Nat) (e : v = .ref D2) (es : s' = { s with heap := h, toks := tk }) (F : Fr g L h m') (n1 : m' "source" = some (.ref S)) (n2 : m' "path" = some path) (n3 : m' "ours" = some (.ref D1)) (n4 : m' "place" = some (.int r tr))
    (N : News g L h tl) (mS : (S, o3) ∈ tl) (ho : SrcO o3) (m1 : (D1, W.listOf vs1.toArray c1) ∈ tl) (m2 : (D2, W.listOf vs2.toArray c2) ∈ tl) (x1 : FormsK (Of tl) ks1 vs1) (x2 : FormsK (Of tl) ks2 vs2) (y1 : vs1.length ≤ 3) (y2 : vs2.length ≤ 3)
/-- what stands when the due answer is reckoned -/
inductive Drawn3 (g : Heap) (L : Addr) (path : Value) (pd : PyData) (r : Int) (tr : Tok) (D1 D2 : Addr) (ks1 ks2 : List Knd) (tl : Led) (f : Flow) (s' : Shared) (s : Shared) : Prop
  | mk (dv cv : Value) (X Y : PyData) (tlx : Led) (m' : Str → Option Value) (h : Heap) (tk : Nat) (e : f = .next) (es : s' = { s with heap := h, toks := tk }) (F : Fr g L h m') (n1 : m' "path" = some path) (n2 : m' "ours" = some (.ref D1)) (n3 : m' "place" = some (.int r tr)) (n4 : m' "theirs" = some (.ref D2)) (n5 : m' "due" = some dv) (n6 : m' "clashes" = some cv)
    (N : News g L h tlx) (sub : ∀ p ∈ tl, p ∈ tlx) (dX : DL (At g tlx) dv X) (dY : DL (At g tlx) cv Y) (hdue : dueI ks1 ks2 pd r = .tuple [X, Y])
theorem linesCIR1 : True := by
  k_with_none
  k_with "ne" => (refine neN ?_; (try dsimp only); first | with_reducible assumption | with_reducible exact Ne.symm (by with_reducible assumption) | exact Nat.ne_of_lt (by first | with_reducible assumption | ((refine ltC (by with_reducible assumption) ?_); (repeat (first | with_reducible exact takeL | with_reducible exact sameL | with_reducible refine skipL ?_)); done) | fail) | exact Ne.symm (Nat.ne_of_lt (by first | with_reducible assumption | ((refine ltC (by with_reducible assumption) ?_); (repeat (first | with_reducible exact takeL | with_reducible exact sameL | with_reducible refine skipL ?_)); done) | fail)) | omega)
  k_with "in" => first | with_reducible exact DL.none | with_reducible exact DL.bool _ | with_reducible exact DL.int _ _ | with_reducible exact DL.str _ _ | with_reducible assumption | ((refine' dlUp (by with_reducible assumption) (by first | ((repeat (with_reducible refine sub_tl ?_)); exact fun _ h => h) | fail))) | ((refine' dlsUp (by with_reducible assumption) (by first | ((repeat (with_reducible refine sub_tl ?_)); exact fun _ h => h) | fail))) | with_reducible exact DLs.nil | ((with_reducible show DLs _ _ _); refine' DLs.cons (by first | kqd_in | fail) (by first | kqd_in | fail)) | (refine' dlTup (by first | k_mem | fail) (by first | (exact rfl) | fail) (by first | kqd_in | fail)) | (refine' dlLst (by first | k_mem | fail) (by first | (exact rfl) | fail) (by first | kqd_in | fail)) | fail
  k_with "all" => first | with_reducible assumption | exact OkD.le (by with_reducible assumption) (by decide) | exact OkDs.le (by with_reducible assumption) (by decide) | with_reducible exact OkD.none | with_reducible exact OkD.bool _ | with_reducible exact OkD.int _ | ((with_reducible refine OkD.str ?_); first | with_reducible assumption | decide +kernel) | with_reducible exact OkDs.nil | ((with_reducible refine OkDs.cons ?_ ?_) <;> kqd_all) | ((with_reducible refine OkD.tuple ?_); kqd_all) | ((with_reducible refine OkD.list ?_); kqd_all) | fail
  k_with "mem" => first | with_reducible assumption | with_reducible exact List.Mem.head _ | ((with_reducible refine List.mem_cons_of_mem _ ?_); k_mem) | fail
  k_with "compareOp Eq ref ref" => (k_here; k_dflt (refine' eqYes (by k_asm) (by k_asm) (by first | kqd_in | fail) (by first | kqd_in | fail) (by first | kqd_all | fail) (by first | kqd_all | fail) (by first | ktr_units | fail) (by with_reducible assumption) ?_; k_whole))
  k_with "compareOp Eq ref ref" => (k_here; k_dflt (refine' eqNo (by k_asm) (by k_asm) (by first | kqd_in | fail) (by first | kqd_in | fail) (by first | kqd_all | fail) (by first | kqd_all | fail) (by first | ktr_units | fail) (by with_reducible assumption) ?_; k_whole))
  k_with "binaryOp Add ref ref" => (k_here; k_dflt (refine' addL (by k_asm) (by k_asm) (by first | k_mem | fail) (by first | k_mem | fail) (by with_reducible assumption) ?_; k_whole); intro wD' wh' wF' wN' wl1; (try dsimp only [AllLt] at wl1); (try k_sweep))
  k_with "unf" => repeat' (first | (k_unfold; (try dsimp only)) | ((try dsimp only); w_not_for; (fail_if_success (with_reducible show wpAny _ _ (eval (PySem.Expr.IfExp _ _ _ _) _) _ _ _)); (fail_if_success (with_reducible show wpAny _ _ (call (Value.ref _) _) _ _ _)); (fail_if_success (with_reducible show wpAny _ _ (call (Value.type "list") _) _ _ _)); walk1) | fail "no step")
  k_with "rel" => repeat' (first | (k_unfold; (try dsimp only)) | ((try dsimp only); w_not_for; (fail_if_success (with_reducible show wpAny _ _ (call (Value.ref _) _) _ _ _)); (fail_if_success (with_reducible show wpAny _ _ (call (Value.type "list") _) _ _ _)); walk1) | fail "no step")
  trivial
theorem insertionsRight {w : World} {dp un : Nat} {fs : Option (List Env)} {gd : Option (List Code)} {s : Shared} {Q E : Value → Shared → Prop} {h₀ : Heap} {L : Addr} {m : Str → Option Value} {news : Led} {path : Value} {pd : PyData} {S : Addr} {o : Obj} {up : Obj → Led}
    (G : Gr w h₀) (F : Fr h₀ L s.heap m) (N : News h₀ L s.heap news) (hdp : dp + 128 < recursionLimit) (hun : un + 600 < cLine) (hp : DL (At h₀ news) path pd) (hpd : OkD 3 pd) (hpt : ∃ is : List Int, pd = .tuple (is.map .int)) (U : UpdF S o news up) (ho : SrcO o)
    (ret : ∀ o' h' tk, SrcO o' → Fr h₀ L h' m → News h₀ L h' (up o') → Q (.bool true) { s with heap := h', toks := tk }) :
    wpAny (model PySem.Challenge.pw_xm0632_01 w) (AR dp un fs gd) (call (.ref 123) [.ref S, path]) Q E s := by
  obtain ⟨⟨loose, mean, mg, mb, T⟩, X⟩ := G
  obtain ⟨pre, post, rfl, hup, hpre, hpost⟩ := U.split
  refine wpAny_call ?_
  refine enterS [(Str.ofString "source", .ref S), (Str.ofString "path", path)] [(S, o)] (fun p h => by rw [List.mem_singleton.mp h]; exact List.mem_append_right _ (.head _)) X T F N (by k_is) (by k_is) (by omega) (BindsTo.of_eq rfl) (locs rfl) (by decide) rfl rfl rfl ?_
  intro g L' h₁ X' T' sg hAt back F' N' lt'
  have hSL : @LT.lt Nat _ S L' := lt' (S, o) (List.mem_append_right _ (.head _))
  have hp0 : DL (At g []) path pd := path_base hpt ho (hp.up hAt)
  have fin : ∀ o' h' tk m', SrcO o' → Fr g L' h' m' → News g L' h' [(S, o')] → Q (.bool true) { s with heap := h', toks := tk } := by
    intro o' h' tk m' ho' nF nN
    obtain ⟨bF, bN, bo, -⟩ := back _ _ _ nF nN
    refine ret o' _ _ ho' bF ?_
    rw [hup]
    intro p hp
    rcases List.mem_append.mp hp with hp | hp
    · exact ⟨bo p (List.mem_append_left _ hp) (by simpa using hpre p hp), (N p (List.mem_append_left _ hp)).2⟩
    · rcases List.mem_cons.mp hp with rfl | hp
      · exact bN _ (.head _)
      · exact ⟨bo p (List.mem_append_right _ (.tail _ hp)) (by simpa using hpost p hp), (N p (List.mem_append_right _ (.tail _ hp))).2⟩
  clear F N X T hAt back hp lt'
  ktr_unf
  refine' lawSome (S := S) (grOf T' X') ?F1 ?N1 ?d1 ?u1 ?U1 ho ?_
  case F1 => k_asm
  case N1 => k_asm
  case d1 => (first | exact room hdp rfl | exact room hun rfl | (dsimp only [AR, Around.deeper]; omega))
  case u1 => (first | exact room hdp rfl | exact room hun rfl | (dsimp only [AR, Around.deeper]; omega))
  case U1 => exact .head fun _ h => absurd h List.not_mem_nil
  intro D1 ks1 vs1 nl1 o1 h2 tk2 K1 z1 ho1 nF nN nS1 nD1
  replace nN : News g _ h2 ((S, o1) :: (D1, W.listOf vs1.toArray vs1.length) :: nl1) := fun p hp => nN p (by
    rcases List.mem_cons.mp hp with rfl | hp
    · exact .tail _ (List.mem_append_right _ (.head _))
    rcases List.mem_cons.mp hp with rfl | hp
    · exact .head _
    · exact .tail _ (List.mem_append_left _ hp))
  clear F' N'
  have off1 : ∀ p ∈ (D1, W.listOf vs1.toArray vs1.length) :: nl1, @Ne Nat p.1 S := fun p hp => by
    rcases List.mem_cons.mp hp with rfl | hp
    · exact nD1
    · exact nS1 p hp
  have mD1 : (D1, W.listOf vs1.toArray vs1.length) ∈ (D1, W.listOf vs1.toArray vs1.length) :: nl1 := .head _
  have K1' : FormsK (Of ((D1, W.listOf vs1.toArray vs1.length) :: nl1)) ks1 vs1 := K1.up fun _ _ h => .tail _ h
  generalize (D1, W.listOf vs1.toArray vs1.length) :: nl1 = tl1 at nN off1 mD1 K1'
  clear K1 nS1
  ktr_unf
  refine' lawTake (S := S) (top := 4) (grOf T' X') ?F2 ?N2 ?d2 ?u2 ?U2 ho1 (by decide) (by decide) ?_
  case F2 => k_asm
  case N2 => k_asm
  case d2 => (first | exact room hdp rfl | exact room hun rfl | (dsimp only [AR, Around.deeper]; omega))
  case u2 => (first | exact room hdp rfl | exact room hun rfl | (dsimp only [AR, Around.deeper]; omega))
  case U2 => exact .head off1
  intro r tr o2 h3 tk3 r0 r4 ho2 nF2 nN2
  (try dsimp only at nN2)
  clear nF nN
  ktr_unf
  with_reducible rename News g L' _ _ => nN
  with_reducible rename Fr g L' _ _ => nF
  replace nN : News g L' _ ((S, o2) :: tl1) := fun p hp => nN p (.tail _ hp)
  refine wpAny_mono (Q := fun v s' => Drawn2 g L' S path r tr D1 v s' s) ?_ (fun v s' hP => ?_) (fun _ _ e => e)
  · ktr_rel
    refine' lawTake (S := S) (top := 4) (grOf T' X') ?F3 ?N3 ?d3 ?u3 ?U3 ho2 (by decide) (by decide) ?_
    case F3 => k_asm
    case N3 => k_asm
    case d3 => (first | exact room hdp rfl | exact room hun rfl | (dsimp only [AR, Around.deeper]; omega))
    case u3 => (first | exact room hdp rfl | exact room hun rfl | (dsimp only [AR, Around.deeper]; omega))
    case U3 => exact .head off1
    intro r' tr' o3 h4 tk4 r0' r4' ho3 nF3 nN3
    (try dsimp only at nN3)
    clear nF nN
    ktr_rel
    · refine list_copyK (items := vs1.toArray) nF3 nN3 ⟨_, (nN3 _ (.tail _ mD1)).1, rfl, _, rfl⟩ ?_ (by rw [sizeLine_eq]; simp; omega)
      intro D2 c2 h5 nF5 nN5 lt5
      ktr_rel
      exact ⟨D2, vs1, vs1, _, c2, ks1, ks1, _, o3, _, _, _, rfl, rfl, nF5, rfl, rfl, rfl, rfl, nN5, .tail _ (.head _), ho3, .tail _ (.tail _ mD1), .head _, K1'.up fun _ _ h => .tail _ (.tail _ h), K1'.up fun _ _ h => .tail _ (.tail _ h), z1, z1⟩
    · refine' lawSome (S := S) (grOf T' X') ?F4 ?N4 ?d4 ?u4 ?U4 ho3 ?_
      case F4 => k_asm
      case N4 => k_asm
      case d4 => (first | exact room hdp rfl | exact room hun rfl | (dsimp only [AR, Around.deeper]; omega))
      case u4 => (first | exact room hdp rfl | exact room hun rfl | (dsimp only [AR, Around.deeper]; omega))
      case U4 => exact .head off1
      intro D2 ks2 vs2 nl2 o4 h5 tk5 K2 z2 ho4 nF5 nN5 nS2 nD2
      ktr_rel
      exact ⟨D2, vs1, vs2, _, vs2.length, ks1, ks2, _, o4, _, _, _, rfl, rfl, nF5, rfl, rfl, rfl, rfl, nN5, .tail _ (List.mem_append_right _ (.head _)), ho4, .tail _ (List.mem_append_right _ (.tail _ mD1)), .head _, K1'.up fun _ _ h => .tail _ (List.mem_append_right _ (.tail _ h)), K2.up fun _ _ h => .tail _ (List.mem_append_left _ h), z1, z2⟩
  · obtain ⟨D2, vs1, vs2, c1, c2, ks1, ks2, tl, o3, m', h6, tk6, rfl, rfl, F6, n1, n2, n3, n4, N6, mS, ho3, m1, m2, x1, x2, y1, y2⟩ := hP
    clear nF nN
    replace F6 := frSet4 (x := "source") (x2 := "path") (x3 := "ours") (x4 := "place") F6 n1 n2 n3 n4
    have s0 : vs1.length + vs2.length ≤ 16 := by omega
    have e1 : DL (At g tl) (.ref D1) (formsD ks1) := DL.list (.inr m1) rfl rfl rfl (x1.dls.up fun _ _ h => .inr h)
    have e2 : DL (At g tl) (.ref D2) (formsD ks2) := DL.list (.inr m2) rfl rfl rfl (x2.dls.up fun _ _ h => .inr h)
    have e3 : DLs (At g tl) (vs1 ++ vs2) ((ks1 ++ ks2).map formD) := ((x1.append x2).dls).up fun _ _ h => .inr h
    have f1 := formsDOk ks1
    have f2 := formsDOk ks2
    have hpT : DL (At g tl) path pd := hp0.up (At.up fun _ h => absurd h List.not_mem_nil)
    repeat' (first | (k_unfold; (try dsimp only)) | ((try dsimp only); w_not_for; (fail_if_success (with_reducible show wpAny _ _ (exec (Stmt.If _ _ _ _) _) _ _ _)); (fail_if_success (with_reducible show wpAny _ _ (call (Value.ref _) _) _ _ _)); walk1) | fail "no step")
    refine wpAny_mono (Q := fun f s' => Drawn3 g L' path pd r tr D1 D2 ks1 ks2 tl f s' s) ?_ (fun f s' hP => ?_) (fun _ _ e => e)
    · by_cases hE : ks1 = ks2
      · have qe : PyData.eqv (formsD ks1) (formsD ks2) = true := (formsD_eq ks1 ks2).trans (by simp [hE])
        by_cases h1 : ks1 = []
        · have q1 : PyData.eqv (formsD ks1) (.list []) = true := (formsD_eq ks1 []).trans (by simp [h1])
          ktr_rel
          with_reducible rename News g L' _ _ => nN
          with_reducible rename Fr g L' _ _ => nF
          exact ⟨_, _, _, _, _, _, _, _, rfl, rfl, nF, rfl, rfl, rfl, rfl, rfl, rfl, nN, (by (repeat (with_reducible refine sub_tl ?_)); exact fun _ h => h), dlUp e2 (by (repeat (with_reducible refine sub_tl ?_)); exact fun _ h => h), DL.list (.inr (.tail _ (.head _))) rfl rfl rfl .nil, by unfold dueI; rw [if_pos (.inl hE), if_pos h1]⟩
        · have q1 : PyData.eqv (formsD ks1) (.list []) = false := (formsD_eq ks1 []).trans (by simp [h1])
          ktr_rel
          with_reducible rename News g L' _ _ => nN
          with_reducible rename Fr g L' _ _ => nF
          exact ⟨_, _, _, _, _, _, _, _, rfl, rfl, nF, rfl, rfl, rfl, rfl, rfl, rfl, nN, (by (repeat (with_reducible refine sub_tl ?_)); exact fun _ h => h), dlUp e1 (by (repeat (with_reducible refine sub_tl ?_)); exact fun _ h => h), DL.list (.inr (.tail _ (.head _))) rfl rfl rfl .nil, by unfold dueI; rw [if_pos (.inl hE), if_neg h1]⟩
      · have qe : PyData.eqv (formsD ks1) (formsD ks2) = false := (formsD_eq ks1 ks2).trans (by simp [hE])
        by_cases h1 : ks1 = []
        · have q1 : PyData.eqv (formsD ks1) (.list []) = true := (formsD_eq ks1 []).trans (by simp [h1])
          ktr_rel
          with_reducible rename News g L' _ _ => nN
          with_reducible rename Fr g L' _ _ => nF
          exact ⟨_, _, _, _, _, _, _, _, rfl, rfl, nF, rfl, rfl, rfl, rfl, rfl, rfl, nN, (by (repeat (with_reducible refine sub_tl ?_)); exact fun _ h => h), dlUp e2 (by (repeat (with_reducible refine sub_tl ?_)); exact fun _ h => h), DL.list (.inr (.tail _ (.head _))) rfl rfl rfl .nil, by unfold dueI; rw [if_pos (.inr (.inl h1)), if_pos h1]⟩
        · have q1 : PyData.eqv (formsD ks1) (.list []) = false := (formsD_eq ks1 []).trans (by simp [h1])
          by_cases h2 : ks2 = []
          · have q2 : PyData.eqv (formsD ks2) (.list []) = true := (formsD_eq ks2 []).trans (by simp [h2])
            ktr_rel
            with_reducible rename News g L' _ _ => nN
            with_reducible rename Fr g L' _ _ => nF
            exact ⟨_, _, _, _, _, _, _, _, rfl, rfl, nF, rfl, rfl, rfl, rfl, rfl, rfl, nN, (by (repeat (with_reducible refine sub_tl ?_)); exact fun _ h => h), dlUp e1 (by (repeat (with_reducible refine sub_tl ?_)); exact fun _ h => h), DL.list (.inr (.tail _ (.head _))) rfl rfl rfl .nil, by unfold dueI; rw [if_pos (.inr (.inr h2)), if_neg h1]⟩
          · have q2 : PyData.eqv (formsD ks2) (.list []) = false := (formsD_eq ks2 []).trans (by simp [h2])
            ktr_rel
            with_reducible rename News g L' _ _ => nN
            with_reducible rename Fr g L' _ _ => nF
            exact ⟨_, _, _, _, _, _, _, _, rfl, rfl, nF, rfl, rfl, rfl, rfl, rfl, rfl, nN, (by (repeat (with_reducible refine sub_tl ?_)); exact fun _ h => h), DL.list (.inr (.tail _ (.tail _ (.tail _ (.tail _ (.tail _ (.head _))))))) rfl rfl rfl (dlsUp e3 (by (repeat (with_reducible refine sub_tl ?_)); exact fun _ h => h)), DL.list (.inr (.tail _ (.tail _ (.tail _ (.head _))))) rfl rfl rfl (.cons (DL.tuple (.inr (.tail _ (.tail _ (.tail _ (.tail _ (.head _)))))) rfl rfl rfl (.cons (.str _ _) (.cons (dlUp hpT (by (repeat (with_reducible refine sub_tl ?_)); exact fun _ h => h)) (.cons (.int _ _) .nil)))) .nil), by unfold dueI; rw [if_neg (fun q => q.elim hE (fun q => q.elim h1 h2))]⟩
    · obtain ⟨dv, cv, X, Y, tlx, m7, h7, tk7, rfl, rfl, F7, n1, n2, n3, n4, n5, n6, N7, sub, dX, dY, hdue⟩ := hP
      replace F7 := frSet6 (x := "path") (x2 := "ours") (x3 := "place") (x4 := "theirs") (x5 := "due") (x6 := "clashes") F7 n1 n2 n3 n4 n5 n6
      have o9 : OkD 9 (insD ks1 ks2 pd r) := insOk hpd
      have hdue' : insD ks1 ks2 pd r = .tuple [X, Y] := (ins_due ks1 ks2 pd r).trans hdue
      have o10 : OkD 9 (.tuple [X, Y]) := hdue' ▸ o9
      have hq : PyData.eqv (insD ks1 ks2 pd r) (.tuple [X, Y]) = true := by
        rw [hdue']; exact SeqAt.eqv_refl _ o10.1
      dsimp only
      ktr_rel
      refine' mergedIns (ks1 := ks1) (ks2 := ks2) (ws1 := vs1) (ws2 := vs2) (grOf T' X') ?F8 ?N8 ?d8 ?u8 (sub _ m1) (sub _ m2) (x1.up fun _ _ h => sub _ h) (x2.up fun _ _ h => sub _ h) y1 y2 (hpT.up (At.up sub)) hpd ?_
      case F8 => k_asm
      case N8 => k_asm
      case d8 => (first | exact room hdp rfl | exact room hun rfl | (dsimp only [AR, Around.deeper]; omega))
      case u8 => (first | exact room hdp rfl | exact room hun rfl | (dsimp only [AR, Around.deeper]; omega))
      intro R nl8 h8 tk8 F8 N8 DR
      have dX' : DL (At g (nl8 ++ tlx)) dv X := dX.up (At.up fun p hp => List.mem_append_right _ hp)
      have dY' : DL (At g (nl8 ++ tlx)) cv Y := dY.up (At.up fun p hp => List.mem_append_right _ hp)
      have mS' : (S, o3) ∈ nl8 ++ tlx := List.mem_append_right _ (sub _ mS)
      clear F7 N7
      generalize nl8 ++ tlx = tlE at F8 N8 DR dX' dY' mS' ⊢
      ktr_rel
      with_reducible rename News g _ _ _ => nN
      with_reducible rename Fr g _ _ _ => nF
      exact fin o3 _ _ _ ho3 nF fun p hp => by
        rw [List.mem_singleton.mp hp]
        exact nN _ (by first | exact mS' | exact .tail _ mS' | exact .tail _ (.tail _ mS'))
end Mine
end

section
open PySem PySem.Spec PySem.W PyProof.Rows PySem.Calls PyProof.Rows.LCg
namespace Mine
section
variable {w : World} {dp un : Nat} {fs : Option (List Env)} {gd : Option (List Code)} {s : Shared} {Q E : Value → Shared → Prop} {h₀ : Heap} {L : Addr} {m : Str → Option Value} {news : Led} {env : Env}
/-- what is left of a comprehension of small numbers taken when its range stands -/
theorem takes5 {elt : PySem.Expr} {x : Str} {px : Pos} {scope : Scope} {cl : List (Str × Addr)} {S r : Addr} {o : Obj} {up : Obj → Led} {n : Nat} {b : Int} {t u v : Tok} {top : Int}
    (G : Gr w h₀) (F : Fr h₀ L s.heap m) (N : News h₀ L s.heap news) (hdp : dp + 16 < recursionLimit) (hun : un + 150 < cLine) (hr : IsRange s.heap r 0 b 1 t u v) (hb : b = (n : Int)) (hn : n ≤ 8)
    (hkind : scope.kind = .function) (hx : scope.names.lookup x = some .local) (U : UpdF S o news up) (ho : SrcO o) (ht0 : 0 < top) (ht8 : top < 8)
    (helt : ∀ C oC I oI D ys o' h tk m₂ (R E' : Value → Shared → Prop), Fr h₀ L h m → News h₀ L h ((I, oI) :: (C, oC) :: (D, lst ys) :: up o') → NsObj oC m₂ → (∀ t' tk', wpAny (model PySem.Challenge.pw_xm0632_01 w) (AR dp un fs gd) (call (.ref 85) [.ref S, .int top t']) R E' { s with heap := h, toks := tk' }) →
      wpAny (model PySem.Challenge.pw_xm0632_01 w) (AR dp un fs gd) (eval elt (compEnvC scope cl C env)) R E' { s with heap := h, toks := tk })
    (ret : ∀ D ys o' h' tk, ys.length = n → (∀ y ∈ ys, ∃ i t, y = Value.int i t) → SrcO o' → Fr h₀ L h' m → News h₀ L h' ((D, lst ys) :: up o') → AllLt D (up o') → Q (.ref D) { s with heap := h', toks := tk }) :
    RngSrc w (AR dp un fs gd) h₀ L m env elt (.Name x px) scope cl Q (.ref r) s := by
  subst hb
  refine ⟨r, 0, (n : Int), t, u, v, n, news, fun v m' => m' x = some v, rfl, F, N, hr, ?_, ?_, by rw [sizeLine_eq]; omega, asg_name hkind hx, fun gg => ?_⟩
  · exact (rng_small hn).1
  · exact (rng_small hn).2
  · refine crest_inv (fun i ys nl => ys.length = i ∧ (∀ y ∈ ys, ∃ i t, y = Value.int i t) ∧ ∃ o', SrcO o' ∧ nl = up o') ?_ ?_ _ _ _ _ (Nat.zero_add _) ⟨rfl, (fun _ h => nomatch h), o, ho, (updF_same U).symm⟩
    · rintro i v' ys nl I oI C oC D m₂ h tk E' R R0 hi hP ⟨h1, h2, o', ho', rfl⟩ hB hoC F₁ N₁ off ne hR hR0
      refine tests_nil ?_
      rw [if_pos rfl]
      refine helt C oC I oI D ys o' h tk m₂ R E' F₁ N₁ hoC fun t' tk' => ?_
      have U' := updF_again (o' := o') U
      have hS := off.mem _ (updF_in U')
      refine lawTake G F₁ N₁ (by omega) (by omega) (.tail (Ne.symm hS.1) (.tail (Ne.symm hS.2.1) (.tail (Ne.symm hS.2.2) U'))) ho' ht0 ht8 ?_
      intro q t2 o2 h' tk2 _ _ ho2 F₂ N₂
      exact hR _ h' tk2 _ F₂ N₂ (off3_addr (by rw [updF_addr U, updF_addr U]) off) trivial ⟨by simp [h1], fun y hy => by
        rcases List.mem_append.mp hy with hy | hy
        · exact h2 y hy
        · rw [List.mem_singleton.mp hy]; exact ⟨_, _, rfl⟩, o2, ho2, rfl⟩
    · rintro ys nl ⟨h1, h2, o', ho', rfl⟩ D h tk F₁ N₁ o1 hlt
      exact ret D ys o' h tk h1 h2 ho' F₁ N₁ (allLt_of fun p hp => addr_lt (updF_addr U) hlt p hp)
theorem ints_of {A : Addr → Obj → Prop} : ∀ {ys : List Value}, (∀ y ∈ ys, ∃ i t, y = Value.int i t) → ∃ is : List Int, DLs A ys (is.map .int)
  | [], _ => ⟨[], .nil⟩
  | y :: ys, h => by
    obtain ⟨i, t, rfl⟩ := h y (.head _)
    obtain ⟨is, his⟩ := ints_of (A := A) fun z hz => h z (.tail _ hz)
    exact ⟨i :: is, .cons (.int i t) his⟩
theorem intsOk : ∀ is : List Int, OkDs 2 (is.map .int)
  | [] => .nil
  | i :: is => .cons (.int i) (intsOk is)
end
end Mine
end

open PySem PySem.Spec PySem.W PyProof.Rows PySem.Calls PyProof.Rows.LCg
open Mine
theorem linesCLAW1 : True := by
  k_with_none
  k_with "ne" => (refine neN ?_; (try dsimp only); first | with_reducible assumption | with_reducible exact Ne.symm (by with_reducible assumption) | exact Nat.ne_of_lt (by first | with_reducible assumption | ((refine ltC (by with_reducible assumption) ?_); (repeat (first | with_reducible exact takeL | with_reducible exact sameL | with_reducible refine skipL ?_)); done) | fail) | exact Ne.symm (Nat.ne_of_lt (by first | with_reducible assumption | ((refine ltC (by with_reducible assumption) ?_); (repeat (first | with_reducible exact takeL | with_reducible exact sameL | with_reducible refine skipL ?_)); done) | fail)) | omega)
  k_with "unf" => repeat' (first | (k_unfold; (try dsimp only)) | ((try dsimp only); w_not_for; (fail_if_success (with_reducible show wpAny _ _ (eval (PySem.Expr.ListComp _ _ _ _) _) _ _ _)); (fail_if_success (with_reducible show wpAny _ _ (call (Value.ref 78) _) _ _ _)); (fail_if_success (with_reducible show wpAny _ _ (call (Value.ref 85) _) _ _ _)); (fail_if_success (with_reducible show wpAny _ _ (call (Value.ref 106) _) _ _ _)); (fail_if_success (with_reducible show wpAny _ _ (call (Value.ref 111) _) _ _ _)); (fail_if_success (with_reducible show wpAny _ _ (call (Value.ref 123) _) _ _ _)); (fail_if_success (with_reducible show wpAny _ _ (call (Value.type "tuple") _) _ _ _)); walk1) | fail "no step")
  trivial
/-- what _law_pool leaves -/
inductive Mine.Pool (g : Heap) (L c : Addr) (oc : Obj) (m : Str → Option Value) (s : Shared) (v : Value) (s' : Shared) : Prop
  | mk (l : Addr) (so : Obj) (h : Heap) (tk : Nat) (e : v = .ref l) (es : s' = { s with heap := h, toks := tk }) (ho : SrcO so) (lt : @LT.lt Nat _ c l) (F : Fr g L h m) (N : News g L h [(l, so), (c, oc)])
theorem Mine.poolEnd {g : Heap} {L c l : Addr} {oc : Obj} {m : Str → Option Value} {s : Shared} {h : Heap} {tk : Nat} {a b : Int} {ta tb : Tok} (F : Fr g L h m) (N : News g L h [(l, W.listOf #[.int a ta, .int b tb] 0), (c, oc)]) (lt : @LT.lt Nat _ c l) : Pool g L c oc m s (.ref l) { s with heap := h, toks := tk } :=
  ⟨l, _, h, tk, rfl, rfl, ⟨_, _, _, _, _, rfl⟩, lt, F, N⟩
theorem Mine.poolMono {M : Model} {A : Around} {t : Sem Value} {Q E : Value → Shared → Prop} {g : Heap} {L c : Addr} {oc : Obj} {m : Str → Option Value} {s : Shared} (_F : Fr g L s.heap m) (_N : News g L s.heap [(c, oc)]) (h1 : wpAny M A t (Pool g L c oc m s) E s)
    (h2 : ∀ l so h tk, SrcO so → @LT.lt Nat _ c l → Fr g L h m → News g L h [(l, so), (c, oc)] → Q (.ref l) { s with heap := h, toks := tk }) : wpAny M A t Q E s :=
  wpAny_mono h1 (fun v s' ⟨l, so, h, tk, e, es, ho, lt, F, N⟩ => by subst e; subst es; exact h2 l so h tk ho lt F N) fun _ _ e => e
theorem PySem.Challenge.cw_xm0632_01_holds : PySem.Challenge.rw_xm0632_01.Holds :=
  hd (by
  w_strict (k_go0; (all_goals try k_fold); ktr_unf; (focus (
    (with_reducible rename News _ _ _ _ => nN);
    (with_reducible rename Fr _ _ _ _ => nF);
    (refine Mine.poolMono nF nN ?pool ?_);
    (case pool => (k_steps; all_goals ((with_reducible rename News _ _ _ _ => nN2); (with_reducible rename Fr _ _ _ _ => nF2); exact Mine.poolEnd nF2 nN2 (by omega))));
    (clear nF nN; intro lS so hS tkS hso ltS nF nN2);
    (ktr_unf);
    (with_reducible rename News _ _ _ _ => nN2);
    (with_reducible rename Fr _ _ _ _ => nF);
    (refine' comp_rng nF rfl ?C1a (by decide) rfl (by decide) (fun _ => rfl) ?_);
    (case C1a => with_unfolding_all rfl);
    (ktr_unf);
    (refine' lawTake (top := 3) (grOf ?T2a ?X2a) ?F2a ?N2a ?d2a ?u2a ?U2a hso (by decide) (by decide) ?_);
    (case F2a => k_asm);
    (case N2a => k_asm);
    (case T2a => k_asm);
    (case X2a => k_asm);
    (case d2a => decide);
    (case u2a => decide);
    (case U2a => k_updF);
    (intro r tr o2 h2 tk2 r0 r3 ho2 nF2 nN3);
    (try dsimp only at nN3);
    (clear nN2);
    (ktr_unf);
    (refine' takes5 (top := 5) (n := r.toNat) (grOf ?T4a ?X4a) ?F4a ?N4a ?d4a ?u4a ?r4a ?b4a ?n4a rfl (by rfl) ?U4a ho2 (by decide) (by decide) ?e4a ?_);
    (case F4a => k_asm);
    (case N4a => k_asm);
    (case T4a => k_asm);
    (case X4a => k_asm);
    (case d4a => decide);
    (case u4a => decide);
    (case r4a => ((with_reducible rename IsRange _ _ _ _ _ _ _ _ => rgX); exact rgX));
    (case b4a => omega);
    (case n4a => omega);
    (case U4a => k_updF);
    (case e4a => (intro C oC I oI D ys o' h tk m₂ R E' F₁ N₁ hoC hcall; (try dsimp only at N₁); ktr_unf; exact hcall _ _));
    (intro Dp ys o5 h5 tk5 hyl hyi ho5 nF5 nN5 lt5);
    (try dsimp only at nN5 lt5);
    (try simp only [AllLt] at lt5);
    (ktr_unf);
    (refine kde_tupleOf nF5 nN5 ⟨_, (nN5 _ (.head _)).1, rfl, _, rfl⟩ (by simp; omega) (zs := ys) (by simp) ?_);
    (intro Tp hT nF6 nN6 lt6);
    (have lt6' := allLt_of lt6);
    (simp only [AllLt] at lt6');
    (obtain ⟨is, his⟩ := ints_of (A := fun _ _ => False) hyi);
    (have hpd : OkD 3 (.tuple (is.map .int)) := .tuple (intsOk is));
    (clear nF5 nN5);
    (ktr_unf);
    (refine' valuesRight (pd := .tuple (is.map .int)) (grOf ?T5a ?X5a) ?F5a ?N5a ?d5a ?u5a ?p5a hpd ?_);
    (case F5a => k_asm);
    (case N5a => k_asm);
    (case T5a => k_asm);
    (case X5a => k_asm);
    (case d5a => decide);
    (case u5a => decide);
    (case p5a => exact DL.tuple (.inr (.head _)) rfl rfl rfl (dls_ints his));
    (intro h7 tk7 nF7 nN7);
    (ktr_unf);
    (refine' attributesRight (pd := .tuple (is.map .int)) (grOf ?T6a ?X6a) ?F6a ?N6a ?d6a ?u6a ?p6a hpd ⟨is, rfl⟩ ?U6a ho5 ?_);
    (case F6a => k_asm);
    (case N6a => k_asm);
    (case T6a => k_asm);
    (case X6a => k_asm);
    (case d6a => decide);
    (case u6a => decide);
    (case p6a => exact DL.tuple (.inr (.head _)) rfl rfl rfl (dls_ints his));
    (case U6a => k_updF);
    (intro o8 h8 tk8 ho8 nF8 nN8);
    (try dsimp only at nN8);
    (ktr_unf);
    (refine' insertionsRight (pd := .tuple (is.map .int)) (grOf ?T7a ?X7a) ?F7a ?N7a ?d7a ?u7a ?p7a hpd ⟨is, rfl⟩ ?U7a ho8 ?_);
    (case F7a => k_asm);
    (case N7a => k_asm);
    (case T7a => k_asm);
    (case X7a => k_asm);
    (case d7a => decide);
    (case u7a => decide);
    (case p7a => exact DL.tuple (.inr (.head _)) rfl rfl rfl (dls_ints his));
    (case U7a => k_updF);
    (intro o9 h9 tk9 ho9 nF9 nN9);
    (try dsimp only at nN9);
    (ktr_unf);
    (k_steps)
))))
