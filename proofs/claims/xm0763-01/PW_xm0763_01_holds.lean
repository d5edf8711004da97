import PyProof.Rows.All
import Wide.All
import OpenK.AllK
import Wide.FinOn
import PySem.Challenge.RW_xm0763_01

set_option linter.unusedVariables false
set_option linter.unusedSimpArgs false
set_option autoImplicit false
set_option Elab.async false
set_option maxRecDepth 100000
set_option maxHeartbeats 2000000

open PySem PySem.W PyProof.Rows PySem.Calls PySem.Spec
namespace Mine

section
/-- the frag alone (kx.heap_1), by the library's own line; the head itself is run once, at the end -/
theorem later {G : Prop} (_ : True) (h : G) : G := h
section
local macro_rules | `(tactic| o_head $H) => `(tactic| (refine later ?hw ?hc))
local macro_rules | `(tactic| w_witness2) => `(tactic| trivial)
open_top kx for PySem.Challenge.rw_xm0763_01.row
end
/-- the statements that the head keeps: all but the six later texts of __name__ -/
noncomputable def skipAt : List Nat → Nat → List Stmt → List Stmt
  | _, _, [] => []
  | [], _, b => b
  | k :: ks, i, st :: r => if Nat.beq i k then skipAt ks (i + 1) r else st :: skipAt (k :: ks) (i + 1) r
noncomputable def V : Program := { PySem.Challenge.pw_xm0763_01 with main := { PySem.Challenge.pw_xm0763_01.main with body := skipAt [1, 5, 25, 32, 36, 39] 0 PySem.Challenge.pw_xm0763_01.main.body } }
end

section
abbrev P0 : Program := PySem.Challenge.rw_xm0763_01.row.prog
abbrev lo : List Str := [Str.ofString "NAME_SIGNS", Str.ofString "LIKE_SIGNS", Str.ofString "GREATEST", Str.ofString "SIGNS_OF_TWO", Str.ofString "RESERVED", Str.ofString "JOINING", Str.ofString "QUOTED_ALWAYS"]

theorem loose_eqV : looseW V [Str.ofString "NAME_SIGNS", Str.ofString "LIKE_SIGNS", Str.ofString "GREATEST"] = lo := by decide +kernel
/-- what stood in h outside the foot stands in h' -/
noncomputable def Keeps (foot : List Addr) (h h' : Heap) : Prop := ∀ b o, b ∉ foot → h.get? b = some o → h'.get? b = some o
theorem Keeps.refl {foot h} : Keeps foot h h := fun _ _ _ e => e
theorem Keeps.trans {f h h' h''} (a : Keeps f h h') (b : Keeps f h' h'') : Keeps f h h'' := fun x o n e => b x o n (a x o n e)
theorem Keeps.fr {foot : List Addr} {h g h' : Heap} {L : Addr} {m : Str → Option Value} (a : Keeps foot h g) (F : Fr g L h' m) : Keeps foot h h' := fun x o n e => F.keep x o (a x o n e)
theorem Keeps.get {h h' : Heap} {a : Addr} {o : Obj} (k : Keeps [] h h') (e : h.get? a = some o) : h'.get? a = some o := k a o (by simp) e
theorem Keeps.mono {f f' : List Addr} {h h' : Heap} (k : Keeps f h h') (hs : ∀ a ∈ f, a ∈ f') : Keeps f' h h' := fun x o n e => k x o (fun q => n (hs x q)) e

section
variable {prog : Program} {w : World} {A₀ A : Around} {s : Shared} {base h₀ : Heap} {outer : List Env} {L : Addr} {m : Str → Option Value} {env : Env} {news : List (Addr × Obj)} {K : Frag}
  {p : Program} {loose : List Str} {mean : ExcName → Option Value} {mg mb : Str → Option Value}
  {R : Result → Shared → Prop} {name qual : Str} {params : Arguments} {body : List Stmt} {scope : Scope} {dV kV doc pm cdv ct oc : Value} {an od : Option Addr} {osl : Array (Option Value)} {f : Addr} {args : Args} {binds : List (Str × Value)}

theorem enterM (B : Below A₀ base outer h₀) (F : Fr h₀ L s.heap m) (X₀ : K.In h₀) (N : News h₀ L s.heap news) (T : Top p loose mean mg mb h₀) (hA : A.frames = some (env :: outer)) (hf : env.frame = some L) (hke : env.scope.kind = .function)
    (ho : K.lookup f = some ⟨oc, od, .func (fnOf name qual params body scope dV kV doc pm an cdv ct), osl⟩) (hcd : codeIn K cdv qual = true) (hroom : A.depth < recursionLimit)
    (hbind : BindsTo s (fnOf name qual params body scope dV kV doc pm an cdv ct) args binds) (hloc : ∀ y ∈ binds, scope.names.lookup y.1 = some .local)
    (h : ∀ g L' h₁ tk, Keeps (news.map (·.1)) s.heap g → Fr g L' h₁ (fun y => binds.reverse.lookup y) → News g L' h₁ news → Below A base (env :: outer) g → K.In g → Top p loose mean mg mb g → (∀ q ∈ news, q.1 < L') →
      wpAny (model prog w) (A.deeper (envOf qual scope L' f cdv)) (execs body (envOf qual scope L' f cdv))
        (fun fl s' => LeaveK h₀ L m g R (match fl with | .ret v => v | _ => .none) s')
        (fun e s' => wpAny (model prog w) (A.deeper (envOf qual scope L' f cdv)) (leaving (envOf qual scope L' f cdv) e) (fun _ s'' => R (.error e) s'') (fun e' s'' => R (.error e') s'') s')
        { s with heap := h₁, toks := tk })
    (hco : scope.isCoroutine = false) (hgen : scope.isGenerator = false) (hk : scope.kind = .function)
    (hcell : ∀ x ∈ scope.names, x.2 ≠ .cell) : codeAny (model prog w) A (.call (.ref f) args) R s := by
  obtain ⟨FG, BG, st, lv⟩ := groundX (R := R) B F N hA hf hke
  refine codeAny_call_def (fd := fnOf name qual params body scope dV kV doc pm an cdv ct) (body := body) (binds := binds) hroom (X₀.keeps F.keep _ _ ho) rfl (T.nolimit.keeps F.keep) (codeRec_of (X₀.keeps F.keep) hcd) rfl hbind hcell hloc (fun h₁ hns hk₁ => ?_) hco hgen hk
  exact wpAny_mono (h _ s.heap.objs.size h₁ _ (fun b o n e => hideAll_get _ e n) ⟨hns, fun b o e => hk₁ b o (of_hideAll _ e), Nat.le_of_eq (hideAll_size _ _)⟩
    (fun q hq => ⟨hk₁ _ _ (N q hq).1, Nat.ne_of_lt (Heap.lt_size (N q hq).1), hideAll_none _ (List.mem_map_of_mem hq)⟩) BG (X₀.keeps st) (T.keeps st) (fun q hq => Heap.lt_size (N q hq).1)) (fun fl s' hl => lv _ _ hl) fun _ _ y => y
end

/-- a call of f with vs ends, changes nothing but the foot, and P holds of what it gives back and the heap -/
noncomputable def Tell (w : World) (k : Nat) (f : Addr) (vs : List Value) (foot : List Addr) (s : Shared) (P : Value → Heap → Prop) : Prop :=
  ∀ (dp un : Nat) (gd : Option (List Code)) (cn : Str) (cs : Scope) (a : Addr) (ccd : Value) (cl : List (Str × Addr)) (outer : List Env) (A₀ : Around) (base h₀ : Heap) (L : Addr) (m : Str → Option Value) (mean : ExcName → Option Value) (mg mb : Str → Option Value) (news : List (Addr × Obj)) (Q E : Value → Shared → Prop),
    Below A₀ base outer h₀ → Fr h₀ L s.heap m → (Mine.kx.heap_1 w.params).In h₀ → News h₀ L s.heap news → Top Mine.V lo mean mg mb h₀ → cs.kind = .function →
    (∀ x ∈ foot, ∃ o, (x, o) ∈ news) → dp + k < recursionLimit → un + 8 * k < cLine →
    (∀ r h' tk', Keeps foot s.heap h' → P r h' → Q r { s with heap := h', toks := tk' }) →
    wpAny (model PySem.Challenge.rw_xm0763_01.row.prog w) (ktrTop dp un gd cn cs L a ccd cl outer) (call (.ref f) vs) Q E s

/-- a rule with the same ledger behind it -/
theorem fr_keeps {h₀ h h' : Heap} {L : Addr} {m : Str → Option Value} {news : List (Addr × Obj)} {foot : List Addr} (F : Fr h₀ L h m) (N : News h₀ L h news) (hf : ∀ x ∈ foot, ∃ o, (x, o) ∈ news) (k : Keeps foot h h') : Fr h₀ L h' m := by
  obtain ⟨oL, es, ep, hL, hLd, hLk, hLf⟩ := F.ns
  refine ⟨⟨oL, es, ep, k _ _ (fun q => ?_) hL, hLd, hLk, hLf⟩, fun b o e => k _ _ (fun q => ?_) (F.keep b o e), F.above⟩
  · obtain ⟨o, ho⟩ := hf _ q
    exact (N _ ho).2.1 rfl
  · obtain ⟨o', ho⟩ := hf _ q
    have := (N _ ho).2.2
    rw [e] at this; cases this
theorem news_keeps {h₀ h h' : Heap} {L : Addr} {news : List (Addr × Obj)} (N : News h₀ L h news) (k : Keeps [] h h') : News h₀ L h' news :=
  fun p hp => ⟨k _ _ (by simp) (N p hp).1, (N p hp).2.1, (N p hp).2.2⟩
theorem news_sub {h₀ h : Heap} {L : Addr} {news news' : List (Addr × Obj)} (N : News h₀ L h news) (hs : ∀ p ∈ news', p ∈ news) : News h₀ L h news' := fun p hp => N p (hs p hp)
theorem news_one {h₀ h h' : Heap} {L : Addr} {news : List (Addr × Obj)} {a : Addr} {o : Obj} (N : News h₀ L h news) (hm : (a, o) ∈ news) {o' : Obj} (e : h'.get? a = some o') : ∀ {news'}, News h₀ L h' news' → News h₀ L h' ((a, o') :: news') :=
  fun N' p hp => by
    rcases List.mem_cons.mp hp with rfl | hp
    · exact ⟨e, (N _ hm).2.1, (N _ hm).2.2⟩
    · exact N' p hp
theorem news_new {h₀ h h' : Heap} {L : Addr} {m : Str → Option Value} {a : Addr} {o' : Obj} (F : Fr h₀ L h m) (hn : h.get? a = none) (e : h'.get? a = some o') : ∀ {news'}, News h₀ L h' news' → News h₀ L h' ((a, o') :: news') :=
  fun N' p hp => by
    rcases List.mem_cons.mp hp with rfl | hp
    · refine ⟨e, fun q => ?_, ?_⟩
      · obtain ⟨oL, es, ep, hL, _⟩ := F.ns
        have q' : a = L := q
        rw [q', hL] at hn; cases hn
      · cases q : h₀.get? a with
        | none => rfl
        | some x => rw [F.keep _ _ q] at hn; cases hn
    · exact N' p hp

noncomputable def Halt (P : Prop) : Prop := P
theorem halt {P : Prop} (h : Halt P) : P := h
theorem halt_at (a : Addr) {M : Model} {A : Around} {vs : List Value} {Q E : Value → Shared → Prop} {s : Shared} (h : Halt (wpAny M A (call (.ref a) vs) Q E s)) : wpAny M A (call (.ref a) vs) Q E s := h
theorem here_at (a : Addr) {M : Model} {A : Around} {vs : List Value} {Q E : Value → Shared → Prop} {s : Shared} (h : wpAny M A (call (.ref a) vs) Q E s) : wpAny M A (call (.ref a) vs) Q E s := h
theorem occ1 (x : Str) (c : Nat) : (Builtin.Str.occurrences x ⟨#[c]⟩ 0 x.length 1).isEmpty = !decide (c ∈ x.cps.toList) := by
  rw [← PySem.StrLaws.found_one, Bool.not_not]
/-- a for over a text's signs; the ledger stays, J says of the turns and the frame -/
theorem iter_text {w : World} {A : Around} {E : Value → Shared → Prop} {s : Shared} {env : Env} {h₀ : Heap} {x : Str} {body : List Stmt} {Q : Flow → Shared → Prop}
    {xt : Str} {tx : Tok} {m₀ : Str → Option Value} {news : List (Addr × Obj)} (J : Nat → (Str → Option Value) → Prop)
    (hh : A.handled = none) (F : Fr h₀ env.locals s.heap m₀) (N : News h₀ env.locals s.heap news) (hj : J 0 m₀)
    (turn : ∀ (i c : Nat) t m₁ h tk own, xt.cps[i]? = some c → OwnOff own (news.map (·.1)) → J i m₁ →
      Fr h₀ env.locals h (fun y => if y = x then some (.str ⟨#[c]⟩ t) else m₁ y) → News h₀ env.locals h (news ++ own) →
      wpAny (model P0 w) A (execs body env) (InvPostN h₀ env.locals (fun m nx => nx = news ∧ J (i + 1) m) own (news.map (·.1)) { s with heap := h, toks := tk } Q) E { s with heap := h, toks := tk })
    (done : ∀ m₁ h tk, J xt.cps.size m₁ → Fr h₀ env.locals h m₁ → News h₀ env.locals h news → Q .next { s with heap := h, toks := tk }) :
    wpAny (model P0 w) A (pyIter (.str xt tx)) (fun it s₂ => LoopAtV P0 w A h₀ env x body Q E it s₂) E s := by
  refine wpAny_pyIter_str fun o St hW hst => ?_
  refine loop_invN (fun i m nx => nx = news ∧ J i m) (hW A hh) ?_ ?_ ?_ ?_ hst (F.push _) (fun p hp => ⟨Heap.get?_push_of_some _ (N p hp).1, (N p hp).2⟩) ⟨rfl, hj⟩ ?_ ?_
  · intro hm
    exact absurd F.ns.lt ((List.mem_singleton.mp hm) ▸ Nat.lt_irrefl _)
  · intro b' hb
    rw [List.mem_singleton.mp hb]
    exact next_is_new F
  · intro p hp hI
    exact absurd (Heap.lt_size (N p hp).1) ((List.mem_singleton.mp hI) ▸ Nat.lt_irrefl _)
  · intro p hp hI
    exact absurd (Heap.lt_size (N p hp).1) ((List.mem_singleton.mp hI) ▸ Nat.lt_irrefl _)
  · rintro i v m₁ nx h tk own hi ⟨n, u, hn, rfl⟩ _ hoff ⟨rfl, hp'⟩ F₁ N₁
    exact turn i n u m₁ h tk own hn hoff hp' F₁ N₁
  · rintro m₁ nx h tk ⟨rfl, hp'⟩ F₁ N₁
    exact done m₁ h tk hp' F₁ N₁
theorem inv_end {h₀ : Heap} {L : Addr} {J : (Str → Option Value) → Prop} {m' : Str → Option Value} {own news news' : List (Addr × Obj)} {s₁ : Shared} {h' : Heap} {tk : Nat} (F : Fr h₀ L h' m') (N : News h₀ L h' news')
    (hj : J m') (hn : ∀ p ∈ news, p ∈ news') (ho : ∀ p ∈ own, p ∈ news') : InvEndN h₀ L (fun m nx => nx = news ∧ J m) own (news.map (·.1)) s₁ { s₁ with heap := h', toks := tk } := ⟨h', tk, m', news', news, rfl, F, N, hn, ho, rfl, rfl, hj⟩
theorem in_tup {w : World} {A : Around} {E : Value → Shared → Prop} {s : Shared} {h₀ : Heap} {L a : Addr} {m : Str → Option Value} {items : Array Value} {ys : List Str} {x : Str} {u : Tok} {Q : Value → Shared → Prop} (F : Fr h₀ L s.heap m) (ht : IsTup h₀ a items) (hi : StrsAre items.toList ys)
    (h : Q (.bool (ys.any (· == x))) s) : wpAny (model P0 w) A (compareOp .In (.str x u) (.ref a)) Q E s := in_tuple_strs (ht.keeps F.keep) hi h
theorem notin_tup {w : World} {A : Around} {E : Value → Shared → Prop} {s : Shared} {h₀ : Heap} {L a : Addr} {m : Str → Option Value} {items : Array Value} {ys : List Str} {x : Str} {u : Tok} {Q : Value → Shared → Prop} (F : Fr h₀ L s.heap m) (ht : IsTup h₀ a items) (hi : StrsAre items.toList ys)
    (h : Q (.bool (!(ys.any (· == x)))) s) : wpAny (model P0 w) A (compareOp .NotIn (.str x u) (.ref a)) Q E s := notin_tuple_strs (ht.keeps F.keep) hi h
theorem news_foot {h₀ h : Heap} {L dx : Addr} {news : List (Addr × Obj)} {o : Obj} {foot : List Addr} (N : News h₀ L h news) (hf : ∀ x ∈ foot, ∃ o, (x, o) ∈ news) (hm : dx ∈ foot) (e : h.get? dx = some o) : ∀ {news'}, News h₀ L h news' → News h₀ L h ((dx, o) :: news') :=
  fun N' p hp => by
    rcases List.mem_cons.mp hp with rfl | hp
    · obtain ⟨o', ho⟩ := hf dx hm
      exact ⟨e, (N _ ho).2.1, (N _ ho).2.2⟩
    · exact N' p hp
theorem inst_base {g h : Heap} {L x C dx : Addr} {m : Str → Option Value} {od : Obj} (F : Fr g L h m) (h1 : g.get? x = some (instObj C dx)) (h2 : g.get? dx = some od) : InstAt h x (instObj C dx) C (some od) :=
  ⟨F.keep _ _ h1, rfl, rfl, F.keep _ _ h2⟩
theorem inst_mix {g h : Heap} {L x C dx : Addr} {m : Str → Option Value} {od : Obj} {news : List (Addr × Obj)} (F : Fr g L h m) (h1 : g.get? x = some (instObj C dx)) (N : News g L h news) (hm : (dx, od) ∈ news) : InstAt h x (instObj C dx) C (some od) :=
  ⟨F.keep _ _ h1, rfl, rfl, N.get hm⟩
theorem isList_of {h : Heap} {l : Addr} {its : Array Value} {n : Nat} (e : h.get? l = some (listOf its n)) : h.IsList l its := ⟨_, e, rfl, _, rfl⟩
theorem item_base {w : World} {A : Around} {E : Value → Shared → Prop} {s : Shared} {g : Heap} {L : Addr} {m : Str → Option Value} {value slice : PySem.Expr} {l : Addr} {vs : List Value} {n : Nat} {k : Int} {u : Tok} {v : Value} {Q : Value → Shared → Prop} (F : Fr g L s.heap m) (hl : g.get? l = some (listOf vs.toArray n)) (h0 : 0 ≤ k) (hhi : k < 2 ^ 63) (hx : vs[k.toNat]? = some v) (h : Q v s)
    (hs : subscripted slice false (.ref l) (.int k u) = operate [.ref l, .int k u] (getItem (.ref l) (.int k u)) := by with_unfolding_all rfl) :
    wpAny (model P0 w) A (subscriptTail value slice (.ref l) (.int k u)) Q E s :=
  item_litK (isList_of (F.keep _ _ hl)) h0 hhi hx h hs
theorem Keeps.to {h h' : Heap} (k : Keeps [] h h') : ∀ b o, h.get? b = some o → h'.get? b = some o := fun _ _ e => k.get e
theorem Keeps.at {foot : List Addr} {h h' : Heap} {a : Addr} {o : Obj} (k : Keeps foot h h') (n : a ∉ foot) (e : h.get? a = some o) : h'.get? a = some o := k a o n e
theorem tell_useF {w : World} {k : Nat} {f : Addr} {vs : List Value} {foot : List Addr} {hp : Heap} {ge : Array GenState} {dr : Drawn} {tk : Nat} {os : OsState} {P : Value → Heap → Prop} {dp un : Nat} {gd : Option (List Code)} {cn : Str} {cs : Scope} {a : Addr} {ccd : Value} {cl : List (Str × Addr)} {outer : List Env} {A₀ : Around} {base h₀ : Heap} {L : Addr} {m : Str → Option Value} {mean : ExcName → Option Value} {mg mb : Str → Option Value} {news : List (Addr × Obj)} {Q E : Value → Shared → Prop}
    (C : Tell w k f vs foot ⟨hp, ge, dr, tk, os⟩ P) (B : Below A₀ base outer h₀) (F : Fr h₀ L hp m) (X : (Mine.kx.heap_1 w.params).In h₀) (N : News h₀ L hp news) (T : Top Mine.V lo mean mg mb h₀) (hk : cs.kind = .function) (hd : dp + k < recursionLimit) (hu : un + 8 * k < cLine)
    (hf : ∀ x ∈ foot, ∃ o, (x, o) ∈ news)
    (h : ∀ r h' tk', Fr h₀ L h' m → News h₀ L hp news → Keeps foot hp h' → P r h' → Q r ⟨h', ge, dr, tk', os⟩) :
    wpAny (model P0 w) (ktrTop dp un gd cn cs L a ccd cl outer) (call (.ref f) vs) Q E ⟨hp, ge, dr, tk, os⟩ :=
  C _ _ _ _ _ _ _ _ _ _ _ _ _ _ _ _ _ _ _ _ B F X N T hk hf hd hu fun r h' tk' kp hp => h r h' tk' (fr_keeps F N hf kp) N kp hp
theorem tell_use {w : World} {k : Nat} {f : Addr} {vs : List Value} {hp : Heap} {ge : Array GenState} {dr : Drawn} {tk : Nat} {os : OsState} {P : Value → Heap → Prop} {dp un : Nat} {gd : Option (List Code)} {cn : Str} {cs : Scope} {a : Addr} {ccd : Value} {cl : List (Str × Addr)} {outer : List Env} {A₀ : Around} {base h₀ : Heap} {L : Addr} {m : Str → Option Value} {mean : ExcName → Option Value} {mg mb : Str → Option Value} {news : List (Addr × Obj)} {Q E : Value → Shared → Prop}
    (C : Tell w k f vs [] ⟨hp, ge, dr, tk, os⟩ P) (B : Below A₀ base outer h₀) (F : Fr h₀ L hp m) (X : (Mine.kx.heap_1 w.params).In h₀) (N : News h₀ L hp news) (T : Top Mine.V lo mean mg mb h₀) (hk : cs.kind = .function) (hd : dp + k < recursionLimit) (hu : un + 8 * k < cLine)
    (h : ∀ r h' tk', Fr h₀ L h' m → News h₀ L h' news → Keeps [] hp h' → P r h' → Q r ⟨h', ge, dr, tk', os⟩) :
    wpAny (model PySem.Challenge.rw_xm0763_01.row.prog w) (ktrTop dp un gd cn cs L a ccd cl outer) (call (.ref f) vs) Q E ⟨hp, ge, dr, tk, os⟩ :=
  C _ _ _ _ _ _ _ _ _ _ _ _ _ _ _ _ _ _ _ _ B F X N T hk (fun _ q => absurd q List.not_mem_nil) hd hu fun r h' tk' kp hp => h r h' tk' (fr_keeps F N (fun _ q => absurd q List.not_mem_nil) kp) (news_keeps N kp) kp hp
/-- what stands behind a body is named, its parts forgotten: the steps' terms stay small -/
theorem wpAny_gen {M : Model} {A : Around} {c : Sem Flow} {h₀ g : Heap} {L : Addr} {m : Str → Option Value} {R : Result → Shared → Prop} {E : Value → Shared → Prop} {s : Shared} {fv : Flow → Value}
    (h : ∀ (R' : Result → Shared → Prop), (∀ r s', R r s' → R' r s') → wpAny M A c (fun fl s' => LeaveK h₀ L m g R' (fv fl) s') (fun _ _ => False) s) : wpAny M A c (fun fl s' => LeaveK h₀ L m g R (fv fl) s') E s :=
  wpAny_noRaise (h R fun _ _ x => x)
/-- a test that is decided, at the reducible level (the kit's own line unfolds what stands behind it) -/
theorem ite_f {A B : Prop} (h : B) : if false = true then A else B := by rw [if_neg Bool.false_ne_true]; exact h
theorem ite_t {A B : Prop} (h : A) : if true = true then A else B := by rw [if_pos rfl]; exact h
theorem in_keeps {w : World} {g h : Heap} {L : Addr} {m : Str → Option Value} (F : Fr g L h m) (X : (Mine.kx.heap_1 w.params).In g) : (Mine.kx.heap_1 w.params).In h := X.keeps F.keep
theorem named {C : Prop} (h : ∀ G : Prop, (C → G) → G) : C := h C id
end

theorem off_P1 : True := by w_top off; trivial
section
theorem item_nat {x : Str} {q c : Nat} (h : x.cps[q]? = some c) : Txt.item x (q : Int) = ⟨#[c]⟩ := by
  have hq : q < x.length := (Array.getElem?_eq_some_iff.mp h).1
  have e : seqIndex? (q : Int) x.length = some q := by
    unfold seqIndex?
    have h1 : ¬ (q : Int) < 0 := by omega
    have h2 : (0 : Int) ≤ q := by omega
    have h3 : (q : Int) < (x.length : Int) := by omega
    simp [h1, h2, h3]
  unfold Txt.item Txt.charAt
  rw [e, Option.bind_some, h]
  rfl
theorem slice_nat (x : Str) (a b : Nat) (h : a ≤ b) : Txt.slice x (some (a : Int)) (some (b : Int)) = ⟨((x.cps.toList.drop a).take (b - a)).toArray⟩ := by
  have key : Builtin.Str.strSliceIndices (some (a : Int)) (some (b : Int)) 1 x.length = Builtin.Str.strSliceIndices (some ((min a x.length : Nat) : Int)) (some ((min b x.length : Nat) : Int)) 1 x.length := by
    unfold Builtin.Str.strSliceIndices
    have e1 : ∀ k : Nat, (max 0 (min (if (k : Int) < 0 then (k : Int) + (x.length : Int) else k) (x.length : Int)) : Int) = ((min k x.length : Nat) : Int) := by
      intro k
      rw [if_neg (by omega)]
      omega
    simp only [show (1 : Int) > 0 by decide, if_true, e1]
    congr 1 <;> omega
  have e : Txt.slice x (some (a : Int)) (some (b : Int)) = Txt.slice x (some ((min a x.length : Nat) : Int)) (some ((min b x.length : Nat) : Int)) := by
    unfold Txt.slice
    rw [key]
  rw [e]
  have := slice_closesL (x := x) (i := ((min a x.length : Nat) : Int)) (j := ((min b x.length : Nat) : Int)) (by omega) (by omega) (by omega)
  rw [beq_iff_eq.mp this]
  have hl : x.cps.toList.length = x.length := by simp [Str.length]
  congr 2
  rw [show ((min a x.length : Nat) : Int).toNat = min a x.length by omega, show (((min b x.length : Nat) : Int) - ((min a x.length : Nat) : Int)).toNat = min b x.length - min a x.length by omega]
  by_cases ha : a ≤ x.length
  · rw [Nat.min_eq_left ha]
    by_cases hb : b ≤ x.length
    · rw [Nat.min_eq_left hb]
    · rw [Nat.min_eq_right (by omega)]
      rw [List.take_of_length_le (by simp only [List.length_drop, hl]; omega), List.take_of_length_le (by simp only [List.length_drop, hl]; omega)]
  · rw [Nat.min_eq_right (by omega), List.drop_eq_nil_of_le (by omega), List.drop_eq_nil_of_le (by omega), List.take_nil, List.take_nil]
theorem drop_at {x : Str} {q c : Nat} (h : x.cps[q]? = some c) : x.cps.toList.drop q = c :: x.cps.toList.drop (q + 1) := by
  have hq : q < x.cps.toList.length := by have := (Array.getElem?_eq_some_iff.mp h).1; simpa using this
  rw [List.drop_eq_getElem_cons hq]
  have : x.cps.toList[q] = c := by
    have := (Array.getElem?_eq_some_iff.mp h).2
    simpa using this
  rw [this]
theorem at_lt {x : Str} {q : Nat} (h : q < x.length) : ∃ c, x.cps[q]? = some c := ⟨_, Array.getElem?_eq_getElem h⟩
theorem tw_stop {x : Str} {q c : Nat} {f : Nat → Bool} (h : x.cps[q]? = some c) (hf : f c = false) : ((x.cps.toList.drop q).takeWhile f).length = 0 := by
  rw [drop_at h, List.takeWhile_cons, hf]; rfl
theorem tw_go {x : Str} {q c : Nat} {f : Nat → Bool} (h : x.cps[q]? = some c) (hf : f c = true) : ((x.cps.toList.drop q).takeWhile f).length = ((x.cps.toList.drop (q + 1)).takeWhile f).length + 1 := by
  rw [drop_at h, List.takeWhile_cons, hf]; rfl
theorem tw_end {x : Str} {q : Nat} {f : Nat → Bool} (h : x.length ≤ q) : ((x.cps.toList.drop q).takeWhile f).length = 0 := by
  rw [List.drop_eq_nil_of_le (by simpa [Str.length] using h)]; rfl
theorem lk_cons {y k : Str} {v : Value} {r : List (Str × Value)} : List.lookup y ((k, v) :: r) = if y = k then some v else List.lookup y r := by
  rw [List.lookup_cons]
  by_cases h : y = k
  · subst h; simp
  · rw [if_neg h, beq_eq_false_iff_ne.mpr h]
theorem upd_two {k : Str} {v v0 : Value} {m : Str → Option Value} : (fun y => if y = k then some v else if y = k then some v0 else m y) = fun y => if y = k then some v else m y := by
  funext y
  by_cases h : y = k <;> simp [h]
theorem upd_int {k : Str} {q : Nat} {t : Tok} {v0 : Value} {m : Str → Option Value} : (fun y => if y = k then some (Value.int ((q : Int) + 1) t) else if y = k then some v0 else m y) = fun y => if y = k then some (Value.int ((q + 1 : Nat) : Int) t) else m y := by
  rw [upd_two, show ((q + 1 : Nat) : Int) = (q : Int) + 1 by omega]
theorem slice_one {x : Str} {q c : Nat} (h : x.cps[q]? = some c) : Txt.slice x (some (q : Int)) (some ((q : Int) + 1)) = ⟨#[c]⟩ := by
  have := slice_nat x q (q + 1) (by omega)
  rw [show ((q + 1 : Nat) : Int) = (q : Int) + 1 by omega] at this
  rw [this, drop_at h]
  simp
theorem slice_end {x : Str} {q : Nat} (h : x.length ≤ q) : Txt.slice x (some (q : Int)) (some ((q : Int) + 1)) = ⟨#[]⟩ := by
  have := slice_nat x q (q + 1) (by omega)
  rw [show ((q + 1 : Nat) : Int) = (q : Int) + 1 by omega] at this
  rw [this, List.drop_eq_nil_of_le (by simpa [Str.length] using h)]
  simp
end

theorem off_P2 : True := by w_top off; trivial
section
theorem getD_drop {x : Str} {b v : Nat} (h : b ≤ v) : x.cps.getD v 0 = (x.cps.toList.drop b).getD (v - b) 0 := by
  simp only [List.getD_eq_getElem?_getD, List.getElem?_drop]
  rw [show b + (v - b) = v by omega]
  simp
theorem len_of_drop {x : Str} {b : Nat} {l : List Nat} (h : x.cps.toList.drop b = l) (hne : l ≠ []) : x.length = b + l.length := by
  have h1 := congrArg List.length h
  simp only [List.length_drop] at h1
  have h2 : x.cps.toList.length = x.length := by simp [Str.length]
  have h3 : l.length ≠ 0 := fun q => hne (List.length_eq_zero_iff.mp q)
  omega
theorem find3_at {x : Str} {q b : Nat} {pre rest : List Nat} (h : x.cps.toList.drop b = pre ++ q :: rest) (hq : q ∉ pre) : Txt.find3 x ⟨#[q]⟩ (b : Int) = ((b + pre.length : Nat) : Int) := by
  have hlen := len_of_drop h (by simp)
  simp only [List.length_append, List.length_cons] at hlen
  have hfi : fromIndex x.length (b : Int) = b := by
    unfold fromIndex
    rw [if_neg (by omega)]
    omega
  have at_pre : ∀ v, b ≤ v → v < b + pre.length → x.cps.getD v 0 ≠ q := by
    intro v h1 h2 e
    rw [getD_drop h1, h, List.getD_eq_getElem?_getD, List.getElem?_append_left (by omega), List.getElem?_eq_getElem (by omega), Option.getD_some] at e
    refine hq ?_
    rw [← e]
    exact List.getElem_mem _
  have at_q : x.cps.getD (b + pre.length) 0 = q := by
    rw [getD_drop (by omega : b ≤ b + pre.length), h, show b + pre.length - b = pre.length by omega]
    simp [List.getD_eq_getElem?_getD]
  rcases StrLaws.find3_spec x q (b : Int) with ⟨_, h2⟩ | ⟨k, e, h1, h2, h3, h4⟩
  · rw [hfi] at h2
    exact absurd at_q (h2 (b + pre.length) (by omega) (by omega))
  · rw [hfi] at h1 h4
    rw [e]
    have : k = b + pre.length := by
      rcases Nat.lt_trichotomy k (b + pre.length) with h5 | h5 | h5
      · exact absurd h3 (at_pre k h1 h5)
      · exact h5
      · exact absurd at_q (h4 (b + pre.length) (by omega) h5)
    rw [this]
/-- a body that holds no q, or one that does: how its doubled form opens -/
theorem dbl_cases (q : Nat) (body : List Nat) : (q ∉ body ∧ StrLaws.dbl q body = body) ∨ ∃ pre b2, q ∉ pre ∧ body = pre ++ q :: b2 ∧ StrLaws.dbl q body = pre ++ q :: q :: StrLaws.dbl q b2 := by
  induction body with
  | nil => exact .inl ⟨by simp, rfl⟩
  | cons c r ih =>
    by_cases hc : c = q
    · subst hc
      exact .inr ⟨[], r, by simp, rfl, by simp [StrLaws.dbl]⟩
    · rcases ih with ⟨h1, h2⟩ | ⟨pre, b2, h1, h2, h3⟩
      · exact .inl ⟨by simp [h1, Ne.symm hc], by simp [StrLaws.dbl, hc, h2]⟩
      · exact .inr ⟨c :: pre, b2, by simp [h1, Ne.symm hc], by simp [h2], by simp [StrLaws.dbl, hc, h3]⟩
theorem dbl_head (q : Nat) (body tail : List Nat) : ∃ pre rest, q ∉ pre ∧ StrLaws.dbl q body ++ q :: tail = pre ++ q :: rest ∧ ((pre = body ∧ rest = tail ∧ StrLaws.dbl q body = body) ∨ ∃ b2, body = pre ++ q :: b2 ∧ rest = q :: (StrLaws.dbl q b2 ++ q :: tail) ∧ StrLaws.dbl q body = pre ++ q :: q :: StrLaws.dbl q b2) := by
  rcases dbl_cases q body with ⟨h1, h2⟩ | ⟨pre, b2, h1, h2, h3⟩
  · exact ⟨body, tail, h1, by rw [h2], .inl ⟨rfl, rfl, h2⟩⟩
  · exact ⟨pre, q :: (StrLaws.dbl q b2 ++ q :: tail), h1, by rw [h3]; simp, .inr ⟨b2, h2, rfl, h3⟩⟩
theorem join_nil : ∀ ys : List Str, (Txt.join (Str.ofString "") ys).cps.toList = (ys.map (·.cps.toList)).flatten := by
  intro ys
  have e0 : Str.ofString "" = ⟨#[]⟩ := by decide +kernel
  show (Builtin.Str.glued (Str.ofString "") ys).cps.toList = _
  rw [StrLaws.glued_eq_join, e0]
  induction ys with
  | nil => rfl
  | cons y r ih =>
    cases r with
    | nil => simp [Str.join]
    | cons z r =>
      show (y ++ ⟨#[]⟩ ++ Str.join ⟨#[]⟩ (z :: r)).cps.toList = _
      simp only [PySem.Str.cps_append, Array.toList_append, ih]
      simp
theorem sum_flat (ys : List Str) : (ys.map (·.length)).sum = ((ys.map (·.cps.toList)).flatten).length := by
  induction ys with
  | nil => rfl
  | cons y r ih =>
    simp only [List.map_cons, List.sum_cons, List.flatten_cons, List.length_append, ih]
    simp [Str.length]
theorem slice_drop {x : Str} {b n : Nat} {pre rest : List Nat} (h : x.cps.toList.drop b = pre ++ rest) (hn : n = b + pre.length) : Txt.slice x (some (b : Int)) (some (n : Int)) = ⟨pre.toArray⟩ := by
  rw [slice_nat x b n (by omega), h, hn, show b + pre.length - b = pre.length by omega, List.take_left']
  rfl
theorem drop_more {x : Str} {b : Nat} {pre rest : List Nat} (h : x.cps.toList.drop b = pre ++ rest) : x.cps.toList.drop (b + pre.length) = rest := by
  rw [← List.drop_drop, h, List.drop_left]
theorem slice_head {x : Str} {b : Nat} {rest : List Nat} (h : x.cps.toList.drop b = rest) (hb : b ≤ x.length) : Txt.slice x (some (b : Int)) (some ((b : Int) + 1)) = ⟨(rest.take 1).toArray⟩ := by
  have := slice_nat x b (b + 1) (by omega)
  rw [show ((b + 1 : Nat) : Int) = (b : Int) + 1 by omega] at this
  rw [this, h, show b + 1 - b = 1 by omega]
end

theorem off_P3 : True := by w_top off; trivial
section
open PySem.NumText
theorem typeCall_int_2 (a b : Value) : checkTypeCall "int" ⟨[a, b], []⟩ = pure () := by kernel_rfl
theorem newCall_int_2 (a b : Value) : checkBuiltinCall "int.__new__" ⟨[.type "int", a, b], []⟩ = pure () := by kernel_rfl
theorem args_init_3 (a b c : Value) : argsOk "object.__init__" ⟨[a, b, c], []⟩ := by unfold argsOk; kernel_rfl
theorem gives10 {x : PySem.Str} {u t : Tok} {n : Int} (hl : x.length ≤ 640) (hn : PySem.intText? x = some n) : Gives (Builtin.«int.__new__» ⟨[.type "int", .str x u, .int 10 t], []⟩) (.int n) :=
  .of_wp fun M A E s Q h => by
    obtain ⟨hp, g, d, tk, os⟩ := s --big
    have f1 := F.conv_sub_int
    have f2 := F.madeHere_int
    have f3 := KIN.str_int
    have f4 := KIN.str_idx
    have f5 := KIN.str_trunc
    have f6 : typeOf (.str x u) = pure (.type "str") := rfl
    have hs : (numSeenOf x).length ≤ 640 := Nat.le_trans (seen_length x) hl
    have hr : (int_private% "readNumeral") 0 10 (numSeenOf x) = (int_private% "Numeral.value") n ∧ ((numSeenOf x).length == (numTextOf x).length) = true := by
      rcases read0 x hs with ⟨m, h1, h2, h3⟩ | ⟨h1, _⟩
      · rw [hn] at h1
        injection h1 with h1
        subst h1
        exact ⟨h3, h2⟩
      · rw [hn] at h1
        cases h1
    have hk := KIN.Hid.mk (And.intro hs hr)
    clear hs hr hl hn
    repeat (any_goals (first
      | assumption
      | ((with_reducible show wpAny _ _ ((int_private% "intFromText") _ _ _) _ _ _); refine KIN.wp_text hk.out.1 hk.out.2.1 hk.out.2.2 ?_)
      | wp_step))
    all_goals first | exact ⟨_, rfl, h⟩ | skip
theorem int10 {w : World} {prog : Program} {A : Around} {E : Value → Shared → Prop} {s : Shared} {Q : Value → Shared → Prop} {x : PySem.Str} {u t : Tok} {n : Int} (hn : PySem.intText? x = some n) (hl : x.length ≤ 640) (h : Q (.int n s.toks) { s with toks := s.toks + 1 }) :
    wpAny (model prog w) A (call (.type "int") [.str x u, .int 10 t]) Q E s :=
  callType_new F.called_int F.newNe_int (typeCall_int_2 _ _) (newCall_int_2 _ _) (fun obj => args_init_3 obj _ _) F.entry_int_new (gives10 hl hn).meets (show (Made.int n).post _ s from ⟨rfl, h⟩)
theorem it1 : PySem.intText? (Str.ofString "9223372036854775808") = some 9223372036854775808 := by decide +kernel
end

theorem off_Lc : True := by w_top off; trivial
section
section
variable {prog : Program} {w : World} {A : Around} {E : Value → Shared → Prop} {s : Shared}
theorem eq_nil {l b : Addr} {its : Array Value} {Q : Value → Shared → Prop} (hl : s.heap.IsList l its) (hb : s.heap.IsList b #[]) (hu : A.units < cLine)
    (h : Q (.bool (decide (its.size = 0))) s) : wpAny (model prog w) A (compareOp .Eq (.ref l) (.ref b)) Q E s := by
  by_cases hz : its.size = 0
  · refine PySem.SeqAt.eq_listAt (e := fun _ => true) hl hb hz hu (fun j h1 h2 => absurd h2 (Nat.not_lt_zero j)) ?_
    rw [hz]
    rw [hz] at h
    exact h
  · refine PySem.SeqAt.eq_list_lengthsAt hl hb (by simpa using hz) hu ?_
    rw [decide_eq_false hz] at h
    exact h
theorem ne_nil {l b : Addr} {its : Array Value} {Q : Value → Shared → Prop} (hl : s.heap.IsList l its) (hb : s.heap.IsList b #[]) (hu : A.units < cLine)
    (h : Q (.bool (!decide (its.size = 0))) s) : wpAny (model prog w) A (compareOp .NotEq (.ref l) (.ref b)) Q E s := by
  by_cases hz : its.size = 0
  · refine PySem.SeqAt.RcNeAt.lists (e := fun _ => true) hl hb hz hu (fun j h1 h2 => absurd h2 (Nat.not_lt_zero j)) _ _ _ _ ?_
    rw [hz]
    rw [hz] at h
    exact h
  · refine PySem.SeqAt.RcNeAt.lists_lengths hl hb (by simpa using hz) hu _ _ _ _ ?_
    rw [decide_eq_false hz] at h
    exact h
theorem ne_strs {l b : Addr} {its its2 : Array Value} {xs : List Str} {Q : Value → Shared → Prop} (hl : s.heap.IsList l its) (hb : s.heap.IsList b its2) (h1 : StrsAre its.toList xs) (h2 : StrsAre its2.toList xs) (hu : A.units < cLine)
    (h : Q (.bool false) s) : wpAny (model prog w) A (compareOp .NotEq (.ref l) (.ref b)) Q E s := by
  have len : ∀ {vs : List Value} {ys : List Str}, StrsAre vs ys → vs.length = ys.length := by
    intro vs ys h
    induction h with
    | nil => rfl
    | cons _ _ _ ih => simp [ih]
  have at_ : ∀ {vs : List Value} {ys : List Str}, StrsAre vs ys → ∀ (i : Nat) (hi : i < vs.length) (hj : i < ys.length), ∃ t, vs[i] = .str ys[i] t := by
    intro vs ys h
    induction h with
    | nil => intro i hi; exact absurd hi (Nat.not_lt_zero i)
    | cons x t _ ih =>
      intro i hi hj
      cases i with
      | zero => exact ⟨t, rfl⟩
      | succ i => exact ih i (by simpa using hi) (by simpa using hj)
  have e1 := len h1
  have e2 := len h2
  have hs : its.size = its2.size := by simp at e1 e2; omega
  refine PySem.SeqAt.RcNeAt.lists (e := fun _ => true) hl hb hs hu (fun j q1 q2 => ?_) _ _ _ _ ?_
  · obtain ⟨t, e3⟩ := at_ h1 j (by simpa using q1) (by rw [← e1]; simpa using q1)
    obtain ⟨u, e4⟩ := at_ h2 j (by simpa using q2) (by rw [← e2]; simpa using q2)
    have e5 : its[j] = .str (xs[j]'(by rw [← e1]; simpa using q1)) t := by rw [← e3]; simp
    have e6 : its2[j] = .str (xs[j]'(by rw [← e1]; simpa using q1)) u := by rw [← e4]; simp
    rw [e5, e6]
    have := PySem.SeqAt.EqAt.str_str (A := A.in1) (s := s) (xs[j]'(by rw [← e1]; simpa using q1)) t (xs[j]'(by rw [← e1]; simpa using q1)) u
    simpa using this
  · have hall : (List.range its.size).all (fun _ => true) = true := by rw [List.all_eq_true]; intro _ _; rfl
    rw [hall]
    exact h
end
end

theorem off_L2 : True := by w_top off; trivial
section
/-- a comprehension's turns by an invariant over the turn's number, what is made, the ledger -/
theorem rest_u {prog : Program} {w : World} {A : Around} {h₀ : Heap} {L : Addr} {m : Str → Option Value} {env : Env} {elt : Expr} {x : Str} {scope : Scope} {cl : List (Str × Addr)} {s : Shared} {S : List (Addr × Obj) → Prop} {P : Nat → Value → Prop}
    {Fin : List Value → List (Addr × Obj) → Prop} {n : Nat} {news : List (Addr × Obj)} (J : Nat → List Value → List (Addr × Obj) → Prop) (h0 : J 0 [] news)
    (step : ∀ i k acc nw, i + (k + 1) = n → J i acc nw → (∀ acc' nw', J (i + 1) acc' nw' → LCg.CompRest prog w A h₀ L m env elt x scope cl s S P Fin k (i + 1) acc' nw') → LCg.CompRest prog w A h₀ L m env elt x scope cl s S P Fin (k + 1) i acc nw)
    (fin : ∀ acc nw, J n acc nw → Fin acc nw) : LCg.CompRest prog w A h₀ L m env elt x scope cl s S P Fin n 0 [] news := by
  have all : ∀ k i acc nw, i + k = n → J i acc nw → LCg.CompRest prog w A h₀ L m env elt x scope cl s S P Fin k i acc nw := by
    intro k
    induction k with
    | zero => intro i acc nw hi hj; exact LCg.CompRest.zero (fin acc nw (by rw [← hi, Nat.add_zero]; exact hj))
    | succ k ih => intro i acc nw hi hj; exact step i k acc nw hi hj fun acc' nw' hj' => ih (i + 1) acc' nw' (by omega) hj'
  exact all n 0 [] _ (by omega) h0
theorem rest_t {prog : Program} {w : World} {A : Around} {h₀ : Heap} {L : Addr} {m : Str → Option Value} {env : Env} {ct elt : Expr} {x : Str} {scope : Scope} {cl : List (Str × Addr)} {s : Shared} {S : List (Addr × Obj) → Prop} {P : Nat → Value → Prop}
    {Fin : List Value → List (Addr × Obj) → Prop} {n : Nat} {news : List (Addr × Obj)} (J : Nat → List Value → List (Addr × Obj) → Prop) (h0 : J 0 [] news)
    (step : ∀ i k acc nw, i + (k + 1) = n → J i acc nw → (∀ acc' nw', J (i + 1) acc' nw' → LCt.CompRestT prog w A h₀ L m env ct elt x scope cl s S P Fin k (i + 1) acc' nw') → LCt.CompRestT prog w A h₀ L m env ct elt x scope cl s S P Fin (k + 1) i acc nw)
    (fin : ∀ acc nw, J n acc nw → Fin acc nw) : LCt.CompRestT prog w A h₀ L m env ct elt x scope cl s S P Fin n 0 [] news := by
  have all : ∀ k i acc nw, i + k = n → J i acc nw → LCt.CompRestT prog w A h₀ L m env ct elt x scope cl s S P Fin k i acc nw := by
    intro k
    induction k with
    | zero => intro i acc nw hi hj; exact LCt.CompRestT.zero (fin acc nw (by rw [← hi, Nat.add_zero]; exact hj))
    | succ k ih => intro i acc nw hi hj; exact step i k acc nw hi hj fun acc' nw' hj' => ih (i + 1) acc' nw' (by omega) hj'
  exact all n 0 [] _ (by omega) h0
theorem strs_get {vs : List Value} {ys : List Str} (h : StrsAre vs ys) : ∀ {i : Nat} {v : Value}, vs[i]? = some v → ∃ z t, v = .str z t ∧ ys[i]? = some z := by
  induction h with
  | nil => intro i v e; simp at e
  | cons x t h ih =>
    intro i v e
    cases i with
    | zero => simp at e; exact ⟨x, t, e.symm, rfl⟩
    | succ i => exact ih (i := i) (by simpa using e)
theorem strs_len2 : ∀ {vs : List Value} {ys : List Str}, StrsAre vs ys → vs.length = ys.length
  | _, _, .nil => rfl
  | _, _, .cons _ _ h => by simp [strs_len2 h]
theorem strs_app {us : List Value} {ws : List Str} {x : Str} {t : Tok} (h : StrsAre us ws) : StrsAre (us ++ [.str x t]) (ws ++ [x]) := by
  induction h with
  | nil => exact .cons _ _ .nil
  | cons y u h ih => exact .cons _ _ ih
theorem take_map_snoc {α β : Type} {l : List α} {i : Nat} {a : α} (f : α → β) (h : l[i]? = some a) : (l.take (i + 1)).map f = (l.take i).map f ++ [f a] := by
  rw [List.take_add_one, h]; simp
end

theorem off_A0 : True := by w_top off; trivial
section
theorem fill0 (w : World) : (Mine.kx.heap_1 w.params, PySem.Challenge.rw_xm0763_01.row.prog) = (Mine.kx.heap_1 w.params, PySem.Challenge.rw_xm0763_01.row.prog) := by
  k_fill
  rfl
noncomputable def reservedL : List Str := [Str.ofString "ADD", Str.ofString "ALL", Str.ofString "ALTER", Str.ofString "AND", Str.ofString "AS", Str.ofString "AUTOINCREMENT", Str.ofString "BETWEEN", Str.ofString "CASE", Str.ofString "CHECK", Str.ofString "COLLATE", Str.ofString "COMMIT", Str.ofString "CONSTRAINT", Str.ofString "CREATE", Str.ofString "DEFAULT", Str.ofString "DEFERRABLE", Str.ofString "DELETE", Str.ofString "DISTINCT", Str.ofString "DROP", Str.ofString "ELSE", Str.ofString "ESCAPE", Str.ofString "EXCEPT", Str.ofString "EXISTS", Str.ofString "FOREIGN", Str.ofString "FROM", Str.ofString "GROUP", Str.ofString "HAVING", Str.ofString "IN", Str.ofString "INDEX", Str.ofString "INSERT", Str.ofString "INTERSECT", Str.ofString "INTO", Str.ofString "IS", Str.ofString "ISNULL", Str.ofString "JOIN", Str.ofString "LIMIT", Str.ofString "NOT", Str.ofString "NOTHING", Str.ofString "NOTNULL", Str.ofString "NULL", Str.ofString "ON", Str.ofString "OR", Str.ofString "ORDER", Str.ofString "PRIMARY", Str.ofString "REFERENCES", Str.ofString "RETURNING", Str.ofString "SELECT", Str.ofString "SET", Str.ofString "TABLE", Str.ofString "THEN", Str.ofString "TO", Str.ofString "TRANSACTION", Str.ofString "UNION", Str.ofString "UNIQUE", Str.ofString "UPDATE", Str.ofString "USING", Str.ofString "VALUES", Str.ofString "WHEN", Str.ofString "WHERE"]
theorem reservedL_tup {w : World} {h : Heap} (X : (Mine.kx.heap_1 w.params).In h) : ∃ items, IsTup h 75 items ∧ StrsAre items.toList reservedL := by
  exact ⟨_, tupK X (by k_is), by delta reservedL; repeat (first | exact StrsAre.nil | refine StrsAre.cons _ _ ?_)⟩
noncomputable def joiningL : List Str := [Str.ofString "CROSS", Str.ofString "FULL", Str.ofString "INDEXED", Str.ofString "INNER", Str.ofString "LEFT", Str.ofString "NATURAL", Str.ofString "OUTER", Str.ofString "RIGHT"]
theorem joiningL_tup {w : World} {h : Heap} (X : (Mine.kx.heap_1 w.params).In h) : ∃ items, IsTup h 76 items ∧ StrsAre items.toList joiningL := by
  exact ⟨_, tupK X (by k_is), by delta joiningL; repeat (first | exact StrsAre.nil | refine StrsAre.cons _ _ ?_)⟩
noncomputable def quotedL : List Str := [Str.ofString "ABORT", Str.ofString "ASC", Str.ofString "BEGIN", Str.ofString "BY", Str.ofString "CAST", Str.ofString "DEFERRED", Str.ofString "DESC", Str.ofString "END", Str.ofString "EXCLUSIVE", Str.ofString "EXPLAIN", Str.ofString "FAIL", Str.ofString "GLOB", Str.ofString "IF", Str.ofString "IGNORE", Str.ofString "IMMEDIATE", Str.ofString "KEY", Str.ofString "LIKE", Str.ofString "OFFSET", Str.ofString "PRAGMA", Str.ofString "RELEASE", Str.ofString "REPLACE", Str.ofString "ROLLBACK", Str.ofString "SAVEPOINT", Str.ofString "TO", Str.ofString "TRANSACTION", Str.ofString "VACUUM", Str.ofString "WITHOUT"]
theorem quotedL_tup {w : World} {h : Heap} (X : (Mine.kx.heap_1 w.params).In h) : ∃ items, IsTup h 264 items ∧ StrsAre items.toList quotedL := by
  exact ⟨_, tupK X (by k_is), by delta quotedL; repeat (first | exact StrsAre.nil | refine StrsAre.cons _ _ ?_)⟩
noncomputable def twoL : List Str := [Str.ofString "<=", Str.ofString ">=", Str.ofString "<>", Str.ofString "!=", Str.ofString "==", Str.ofString "||", Str.ofString "<<", Str.ofString ">>"]
theorem twoL_tup {w : World} {h : Heap} (X : (Mine.kx.heap_1 w.params).In h) : ∃ items, IsTup h 73 items ∧ StrsAre items.toList twoL := by
  exact ⟨_, tupK X (by k_is), by delta twoL; repeat (first | exact StrsAre.nil | refine StrsAre.cons _ _ ?_)⟩
end

theorem off_A1 : True := by w_top off; trivial
section
local macro_rules | `(tactic| walk_at "call builtin:ord") => `(tactic| (k_here; (with_reducible show wpAny _ _ (call (Value.builtin "ord") [Value.str _ _]) _ _ _); refine P.ord_of_char ?_))

noncomputable def letters : List Nat := (Str.ofString "abcdefghijklmnopqrstuvwxyzABCDEFGHIJKLMNOPQRSTUVWXYZ_").cps.toList
noncomputable def nameSigns : List Nat := (Str.ofString "abcdefghijklmnopqrstuvwxyzABCDEFGHIJKLMNOPQRSTUVWXYZ_0123456789$").cps.toList
noncomputable def beginsC (c : Nat) : Bool := decide (c ∈ letters) || decide (c > 127)
noncomputable def goesC (c : Nat) : Bool := decide (c ∈ nameSigns) || decide (c > 127)

theorem begins_spec (w : World) (s : Shared) (c : Nat) (t : Tok) : Tell w 1 88 [.str ⟨#[c]⟩ t] [] s (fun r _ => r = .bool (beginsC c)) := by
  unfold Tell
  k_fill
  intro dp un gd cn cs fa ccd cl outer A₀ base h₀ L m mean mg mb news Q E B F X N T hk hf hd hu hret
  have N1 : News h₀ L s.heap [] := News.nil
  refine wpAny_call ?_
  k_dflt (refine' enterM (binds := [(Str.ofString "sign", .str ⟨#[c]⟩ t)]) ?k1 ?k2 ?k3 ?k4 ?k5 ?kA ?kF ?kK ?k6 ?k7 ?k8 ?k9 ?kB ?_ ?c2 ?c3 ?c4 ?c5; (case kA => exact rfl); (case kF => exact rfl); (case kK => assumption); (case k1 => k_asm); (case k2 => k_asm); (case k3 => k_asm); (case k4 => exact N1); (case k5 => k_asm); (case k6 => k_is); (case k7 => k_is); (case k8 => ktr_room); (case k9 => exact BindsTo.of_eq rfl); (case c5 => decide); (case kB => exact locs rfl); (case c2 => exact rfl); (case c3 => exact rfl); (case c4 => exact rfl); k_whole)
  intro g L' h₁ tk₁ Kp F' N' B' X' T' l1
  (try k_lt l1)
  (try dsimp only)
  (try k_lift B')
  refine wpAny_gen (fun R0 hR0 => ?_)
  replace hret := fun r h' tk' k p => hR0 (.ok (.ret r)) _ (hret r h' tk' k p)
  clear hR0
  (try k_fold)

  k_steps
  all_goals (refine hret _ _ _ (Kp.fr (by assumption)) ?_; clear hret)
  all_goals (simp only [occ1] at *)
  all_goals first | (simp_all [beginsC, letters]; done) | (simp_all [beginsC, letters]; omega)
theorem goes_spec (w : World) (s : Shared) (c : Nat) (t : Tok) : Tell w 1 95 [.str ⟨#[c]⟩ t] [] s (fun r _ => r = .bool (goesC c)) := by
  unfold Tell
  k_fill
  intro dp un gd cn cs fa ccd cl outer A₀ base h₀ L m mean mg mb news Q E B F X N T hk hf hd hu hret
  have N1 : News h₀ L s.heap [] := News.nil
  refine wpAny_call ?_
  k_dflt (refine' enterM (binds := [(Str.ofString "sign", .str ⟨#[c]⟩ t)]) ?k1 ?k2 ?k3 ?k4 ?k5 ?kA ?kF ?kK ?k6 ?k7 ?k8 ?k9 ?kB ?_ ?c2 ?c3 ?c4 ?c5; (case kA => exact rfl); (case kF => exact rfl); (case kK => assumption); (case k1 => k_asm); (case k2 => k_asm); (case k3 => k_asm); (case k4 => exact N1); (case k5 => k_asm); (case k6 => k_is); (case k7 => k_is); (case k8 => ktr_room); (case k9 => exact BindsTo.of_eq rfl); (case c5 => decide); (case kB => exact locs rfl); (case c2 => exact rfl); (case c3 => exact rfl); (case c4 => exact rfl); k_whole)
  intro g L' h₁ tk₁ Kp F' N' B' X' T' l1
  (try k_lt l1)
  (try dsimp only)
  (try k_lift B')
  refine wpAny_gen (fun R0 hR0 => ?_)
  replace hret := fun r h' tk' k p => hR0 (.ok (.ret r)) _ (hret r h' tk' k p)
  clear hR0
  (try k_fold)

  k_steps
  all_goals (refine hret _ _ _ (Kp.fr (by assumption)) ?_; clear hret)
  all_goals (simp only [occ1] at *)
  all_goals first | (simp_all [goesC, nameSigns]; done) | (simp_all [goesC, nameSigns]; omega)
noncomputable def hdC (x : Str) : Nat := x.cps.getD 0 0
theorem begins1 (w : World) (s : Shared) (x : Str) (t : Tok) (h : x.length = 1) : Tell w 1 88 [.str x t] [] s (fun r _ => r = .bool (beginsC (hdC x))) := by
  have e := one_sign h
  have := begins_spec w s (hdC x) t
  unfold hdC at this
  rw [← e] at this
  exact this
theorem goes1 (w : World) (s : Shared) (x : Str) (t : Tok) (h : x.length = 1) : Tell w 1 95 [.str x t] [] s (fun r _ => r = .bool (goesC (hdC x))) := by
  have e := one_sign h
  have := goes_spec w s (hdC x) t
  unfold hdC at this
  rw [← e] at this
  exact this
end

theorem off_A2 : True := by w_top off; trivial
section
noncomputable def foldSign (a : Str) : Str := if a.cps.toList < (Str.ofString "a").cps.toList then a else if (Str.ofString "z").cps.toList < a.cps.toList then a else Txt.upper a
noncomputable def foldedF (x : Str) : Str := if Txt.isascii x then Txt.upper x else Txt.join (Str.ofString "") ((signs x).map foldSign)
theorem foldSign_len (c : Nat) : (foldSign ⟨#[c]⟩).length = 1 := by
  unfold foldSign
  split
  · rfl
  · split
    · rfl
    · rename_i h1 h2
      have e1 : (Str.ofString "a").cps.toList = [97] := by decide +kernel
      have e2 : (Str.ofString "z").cps.toList = [122] := by decide +kernel
      rw [e1] at h1
      rw [e2] at h2
      simp only [List.cons_lt_cons_iff] at h1 h2
      have a1 : 97 ≤ c := by simp at h1; omega
      have a2 : c ≤ 122 := by simp at h2; omega
      have key : ∀ d : Nat, d < 26 → (Txt.upper ⟨#[d + 97]⟩).length = 1 := by decide +kernel
      have := key (c - 97) (by omega)
      rwa [show c - 97 + 97 = c by omega] at this
theorem fold_sum (x : Str) : (((signs x).map foldSign).map (·.length)).sum = x.length := by
  have : ∀ l : List Nat, (((l.map fun c => (⟨#[c]⟩ : Str)).map foldSign).map (·.length)).sum = l.length := by
    intro l
    induction l with
    | nil => rfl
    | cons c l ih => simp only [List.map_cons, List.sum_cons, foldSign_len, ih, List.length_cons]; omega
  have h := this x.cps.toList
  simpa [signs, Str.length] using h
/-- a comprehension over a text's signs, one sign at a time -/
theorem comp_signs {w : World} {A : Around} {E : Value → Shared → Prop} {s : Shared} {h₀ : Heap} {L : Addr} {m : Str → Option Value} {news : List (Addr × Obj)} {env : Env} {elt iter : Expr} {x : Str} {px : Pos} {scope : Scope} {pos : Pos} {Q : Value → Shared → Prop} {d : Str → PyData}
    (hh : A.handled = none) (hfree : ∀ y ∈ scope.names, y.2 ≠ .free) (hcell : ∀ y ∈ scope.names, y.2 ≠ .cell) (hkind : scope.kind = .function)
    (hnames : ∀ y ∈ scope.names, y.2 = .local → scope.names.lookup y.1 = some .local) (hx : scope.names.lookup x = some .local)
    (h : wpAny (model P0 w) A (eval iter env) (fun xv s₁ => ∃ y t, xv = .str y t ∧ y.length ≤ sizeLine ∧ Fr h₀ L s₁.heap m ∧ News h₀ L s₁.heap news ∧
      (∀ C c u s₂ m₂ E', s₂.heap.Ns (compEnv scope C env).locals m₂ → m₂ x = some (.str ⟨#[c]⟩ u) → wpAny (model P0 w) A (eval elt (compEnv scope C env)) (fun r s₃ => Carried r (d ⟨#[c]⟩) ∧ PySem.Keeps s₂ s₃) E' s₂) ∧
      (∀ D (ys : List Value) h' tk, Fr h₀ L h' m → News h₀ L h' news → h₀.get? D = none → h'.IsList D ys.toArray → NewPlain h' news D ys.toArray → CarriedAll ys ((signs y).map d) → Q (.ref D) { s₁ with heap := h', toks := tk })) E s)
    (hs : ∀ x, foldedSetIterable iter env x = pure x) :
    wpAny (model P0 w) A (eval (.ListComp elt [⟨.Name x px, iter, [], 0⟩] scope pos) env) Q E s := by
  refine wpAny_ListComp_walk (ItemKind.str.lift fun _ => true) (fun v r => ∃ a, ItemKind.str.is a v ∧ Carried r (d a)) hfree hcell hkind hnames hx
    (wpAny_mono h (fun xv s₁ h₁ => ?_) fun _ _ e => e) hs
  refine named (fun G9 hG9 => ?_)
  obtain ⟨y, t, rfl, hsz, F, N, helt, hQ⟩ := h₁
  refine hG9 ?_
  clear hG9 G9
  refine wpAny_pyIter_str fun o St W hst => ?_
  have up : ∀ (h' : Heap), (∀ b o', b ∉ [s₁.heap.objs.size] → (s₁.heap.push o).get? b = some o' → h'.get? b = some o') → ∀ b o', s₁.heap.get? b = some o' → h'.get? b = some o' :=
    fun h' hk b o' e => hk b o' (old_not_new e) (Heap.get?_push_of_some _ e)
  refine ⟨s₁.heap.objs.size, [s₁.heap.objs.size], [s₁.heap.objs.size], y.cps.size, SignAt y, St, rfl, W A hh, hsz, hst, ?_, ⟨?_, ?_⟩, ?_⟩
  · intro b hb
    show b < (s₁.heap.push o).objs.size
    rw [Heap.size_push, List.mem_singleton.mp hb]
    exact Nat.lt_succ_self _
  · intro C i v s₃ m₃ E' hP hn hm _ _
    refine named (fun G9 hG9 => ?_)
    obtain ⟨c, u, _, rfl⟩ := hP
    refine hG9 ?_
    clear hG9 G9
    rw [ItemKind.lift_is (show ItemKind.str.is ⟨#[c]⟩ (.str ⟨#[c]⟩ u) from ⟨u, rfl⟩)]
    exact wpAny_pure ⟨rfl, ⟨_, _, rfl, fun _ _ e => e⟩⟩
  · intro C i v s₃ m₃ E' hP hp hn hm _ _
    refine named (fun G9 hG9 => ?_)
    obtain ⟨c, u, _, rfl⟩ := hP
    refine hG9 ?_
    clear hG9 G9
    exact wpAny_mono (helt C c u s₃ m₃ E' hn hm) (fun r s₄ h₄ => ⟨⟨_, ⟨u, rfl⟩, h₄.1⟩, h₄.2⟩) fun _ _ e => e
  · intro D h' tk ys vs hnew hlD hplD hlen hP hF hk
    have hC := (areOf_signs hlen hP).paired (fun _ => true) d _ hF
    rw [show List.filter (fun _ => true) (signs y) = signs y from List.filter_eq_self.mpr fun _ _ => rfl] at hC
    refine hQ D ys.toList h' tk (F.keeps (up h' hk)) (N.grown (up h' hk)) ?_ (by rw [Array.toArray_toList]; exact hlD) ⟨by rw [Array.toArray_toList]; exact hplD, fun p hp e => by rw [← e, Heap.get?_push_of_some _ (N p hp).1] at hnew; cases hnew⟩ hC
    cases e : h₀.get? D with
    | none => rfl
    | some o' => rw [Heap.get?_push_of_some _ (F.keep _ _ e)] at hnew; cases hnew

theorem sizeLine_ge : 1000000 ≤ sizeLine := by decide +kernel
local macro_rules | `(tactic| walk_at "eval ListComp") => `(tactic| (refine halt ?_))
local macro_rules | `(tactic| walk_at "call builtin:str.join") => `(tactic| (refine halt ?_))
theorem folded_spec (w : World) (s : Shared) (x : Str) (t : Tok) (hx : x.length ≤ 1000) : Tell w 1 81 [.str x t] [] s (fun r _ => ∃ t', r = .str (foldedF x) t') := by
  unfold Tell
  k_fill
  intro dp un gd cn cs fa ccd cl outer A₀ base h₀ L m mean mg mb news Q E B F X N T hk hf hd hu hret
  have N1 : News h₀ L s.heap [] := News.nil
  refine wpAny_call ?_
  k_dflt (refine' enterM (binds := [(Str.ofString "text", .str x t)]) ?k1 ?k2 ?k3 ?k4 ?k5 ?kA ?kF ?kK ?k6 ?k7 ?k8 ?k9 ?kB ?_ ?c2 ?c3 ?c4 ?c5; (case kA => exact rfl); (case kF => exact rfl); (case kK => assumption); (case k1 => k_asm); (case k2 => k_asm); (case k3 => k_asm); (case k4 => exact N1); (case k5 => k_asm); (case k6 => k_is); (case k7 => k_is); (case k8 => ktr_room); (case k9 => exact BindsTo.of_eq rfl); (case c5 => decide); (case kB => exact locs rfl); (case c2 => exact rfl); (case c3 => exact rfl); (case c4 => exact rfl); k_whole)
  intro g L' h₁ tk₁ Kp F' N' B' X' T' l1
  (try k_lt l1)
  (try dsimp only)
  (try k_lift B')
  refine wpAny_gen (fun R0 hR0 => ?_)
  replace hret := fun r h' tk' k p => hR0 (.ok (.ret r)) _ (hret r h' tk' k p)
  clear hR0
  (try k_fold)

  k_steps
  · refine hret _ _ _ (Kp.fr (by assumption)) ?_
    exact ⟨_, by rw [foldedF, if_pos (by assumption)]⟩
  unfold Halt
  refine comp_signs (h₀ := g) (L := L') (m := fun y => List.lookup y [(Str.ofString "text", Value.str x t)]) (news := []) (d := fun a => PyData.str (foldSign a)) ?a1 ?a2 ?a3 ?a4 ?a5 ?a6 ?_ (fun _ => rfl)
  case a1 => rfl
  case a2 => decide
  case a3 => decide
  case a4 => rfl
  case a5 => decide
  case a6 => rfl
  refine ld F' (by rfl) ?_
  refine ⟨x, t, rfl, Nat.le_trans (by omega) sizeLine_ge, F', N', ?g2, ?g3⟩
  case g2 =>
    intro C c u s₂ m₂ E' hn hm
    have hu1 : (⟨#[c]⟩ : Str).length = 1 := rfl
    clear hret
    k_steps
    all_goals first
      | exact ⟨_, _, rfl, fun _ _ e => e⟩
      | (simp only [foldSign]; simp only [*, if_true, if_false]; exact Carried.str _ _)
  case g3 =>
    intro D ys h' tk F'' N'' hD hL hP hC
    k_steps
    unfold Halt
    have hC2 : CarriedAll ys (((signs x).map foldSign).map PyData.str) := by
      rw [List.map_map]; exact hC
    refine join_list hL (StrsAre.of_carried hC2) ?tot ?_
    case tot =>
      rw [fold_sum]
      have : (Str.ofString "").length = 0 := by decide +kernel
      rw [this]; simp; omega
    intro t' k
    k_steps
    refine hret _ _ _ (Kp.fr (by assumption)) ?_
    refine ⟨t', ?_⟩
    rw [foldedF, if_neg]
    simp [*]
end

theorem off_A3 : True := by w_top off; trivial
local macro_rules | `(tactic| walk_at "compareOp In str ref") => `(tactic| (k_here; (with_reducible show wpAny _ _ (compareOp _ (Value.str _ _) (Value.ref 75)) _ _ _); k_dflt ((have hT9 := reservedL_tup (h := _) (by assumption)); (obtain ⟨i9, t9, s9⟩ := hT9); (refine' in_tup ?F t9 s9 ?_); (case F => k_asm); k_whole)))
local macro_rules | `(tactic| walk_at "compareOp NotIn str ref") => `(tactic| (k_here; (with_reducible show wpAny _ _ (compareOp _ (Value.str _ _) (Value.ref 75)) _ _ _); k_dflt ((have hT9 := reservedL_tup (h := _) (by assumption)); (obtain ⟨i9, t9, s9⟩ := hT9); (refine' notin_tup ?F t9 s9 ?_); (case F => k_asm); k_whole)))
local macro_rules | `(tactic| walk_at "compareOp In str ref") => `(tactic| (k_here; (with_reducible show wpAny _ _ (compareOp _ (Value.str _ _) (Value.ref 76)) _ _ _); k_dflt ((have hT9 := joiningL_tup (h := _) (by assumption)); (obtain ⟨i9, t9, s9⟩ := hT9); (refine' in_tup ?F t9 s9 ?_); (case F => k_asm); k_whole)))
local macro_rules | `(tactic| walk_at "compareOp NotIn str ref") => `(tactic| (k_here; (with_reducible show wpAny _ _ (compareOp _ (Value.str _ _) (Value.ref 76)) _ _ _); k_dflt ((have hT9 := joiningL_tup (h := _) (by assumption)); (obtain ⟨i9, t9, s9⟩ := hT9); (refine' notin_tup ?F t9 s9 ?_); (case F => k_asm); k_whole)))
local macro_rules | `(tactic| walk_at "compareOp In str ref") => `(tactic| (k_here; (with_reducible show wpAny _ _ (compareOp _ (Value.str _ _) (Value.ref 264)) _ _ _); k_dflt ((have hT9 := quotedL_tup (h := _) (by assumption)); (obtain ⟨i9, t9, s9⟩ := hT9); (refine' in_tup ?F t9 s9 ?_); (case F => k_asm); k_whole)))
local macro_rules | `(tactic| walk_at "compareOp NotIn str ref") => `(tactic| (k_here; (with_reducible show wpAny _ _ (compareOp _ (Value.str _ _) (Value.ref 264)) _ _ _); k_dflt ((have hT9 := quotedL_tup (h := _) (by assumption)); (obtain ⟨i9, t9, s9⟩ := hT9); (refine' notin_tup ?F t9 s9 ?_); (case F => k_asm); k_whole)))
local macro_rules | `(tactic| walk_at "compareOp In str ref") => `(tactic| (k_here; (with_reducible show wpAny _ _ (compareOp _ (Value.str _ _) (Value.ref 73)) _ _ _); k_dflt ((have hT9 := twoL_tup (h := _) (by assumption)); (obtain ⟨i9, t9, s9⟩ := hT9); (refine' in_tup ?F t9 s9 ?_); (case F => k_asm); k_whole)))
local macro_rules | `(tactic| walk_at "compareOp NotIn str ref") => `(tactic| (k_here; (with_reducible show wpAny _ _ (compareOp _ (Value.str _ _) (Value.ref 73)) _ _ _); k_dflt ((have hT9 := twoL_tup (h := _) (by assumption)); (obtain ⟨i9, t9, s9⟩ := hT9); (refine' notin_tup ?F t9 s9 ?_); (case F => k_asm); k_whole)))
local macro_rules | `(tactic| walk_at "call ref") => `(tactic| (k_here; (with_reducible refine here_at 95 ?_); k_dflt (refine' tell_use (goes1 _ _ _ _ ?kp) ?k1 ?k2 ?k3 ?k4 ?k5 ?k6 ?k7 ?k8 ?_; (case kp => omega); (case k1 => k_asm); (case k2 => k_asm); (case k3 => k_asm); (case k4 => k_asm); (case k5 => k_asm); (case k6 => first | exact rfl | assumption); (case k7 => ktr_room); (case k8 => ktr_units); k_whole); intro r9 h' tk' F' N' Kq' hP; (try dsimp only at hP); (subst hP); (try dsimp only); (try k_sweep)))
section
local macro_rules | `(tactic| walk_at "exec For") => `(tactic| (refine halt ?_))
local macro_rules | `(tactic| walk_at "pyIter str") => `(tactic| (refine halt ?_))
local macro_rules | `(tactic| walk_at "call ref") => `(tactic| (k_here; (with_reducible refine here_at 88 ?_); k_dflt (refine' tell_use (begins1 _ _ _ _ ?kp) ?k1 ?k2 ?k3 ?k4 ?k5 ?k6 ?k7 ?k8 ?_; (case kp => omega); (case k1 => k_asm); (case k2 => k_asm); (case k3 => k_asm); (case k4 => k_asm); (case k5 => k_asm); (case k6 => first | exact rfl | assumption); (case k7 => ktr_room); (case k8 => ktr_units); k_whole); intro r9 h' tk' F' N' Kq' hP; (try dsimp only at hP); (subst hP); (try dsimp only); (try k_sweep)))
local macro_rules | `(tactic| walk_at "call ref") => `(tactic| (k_here; (with_reducible refine here_at 81 ?_); k_dflt (refine' tell_use (folded_spec _ _ _ _ ?kp) ?k1 ?k2 ?k3 ?k4 ?k5 ?k6 ?k7 ?k8 ?_; (case kp => omega); (case k1 => k_asm); (case k2 => k_asm); (case k3 => k_asm); (case k4 => k_asm); (case k5 => k_asm); (case k6 => first | exact rfl | assumption); (case k7 => ktr_room); (case k8 => ktr_units); k_whole); intro r9 h' tk' F' N' Kq' hP; (try dsimp only at hP); (obtain ⟨t9, e9⟩ := hP); (subst e9); (try dsimp only); (try k_sweep)))
local macro_rules | `(tactic| walk_at "InvEndN") => `(tactic| (refine halt ?_))
noncomputable def isBareF (x : Str) : Bool := !(x == Str.ofString "") && beginsC (hdC (Txt.item x 0)) && !(reservedL.any (· == foldedF x)) && !(joiningL.any (· == foldedF x)) && !(quotedL.any (· == foldedF x)) && x.cps.toList.all goesC
theorem is_bare_spec (w : World) (s : Shared) (x : Str) (t : Tok) (hx : x.length ≤ 1000) : Tell w 3 271 [.str x t] [] s (fun r _ => r = .bool (isBareF x)) := by
  unfold Tell
  k_fill
  intro dp un gd cn cs fa ccd cl outer A₀ base h₀ L m mean mg mb news Q E B F X N T hk hf hd hu hret
  have N1 : News h₀ L s.heap [] := News.nil
  refine wpAny_call ?_
  k_dflt (refine' enterM (binds := [(Str.ofString "name", .str x t)]) ?k1 ?k2 ?k3 ?k4 ?k5 ?kA ?kF ?kK ?k6 ?k7 ?k8 ?k9 ?kB ?_ ?c2 ?c3 ?c4 ?c5; (case kA => exact rfl); (case kF => exact rfl); (case kK => assumption); (case k1 => k_asm); (case k2 => k_asm); (case k3 => k_asm); (case k4 => exact N1); (case k5 => k_asm); (case k6 => k_is); (case k7 => k_is); (case k8 => ktr_room); (case k9 => exact BindsTo.of_eq rfl); (case c5 => decide); (case kB => exact locs rfl); (case c2 => exact rfl); (case c3 => exact rfl); (case c4 => exact rfl); k_whole)
  intro g L' h₁ tk₁ Kp F' N' B' X' T' l1
  (try k_lt l1)
  (try dsimp only)
  (try k_lift B')
  refine wpAny_gen (fun R0 hR0 => ?_)
  replace hret := fun r h' tk' k p => hR0 (.ok (.ret r)) _ (hret r h' tk' k p)
  clear hR0
  (try k_fold)

  k_steps
  all_goals first
    | (refine hret _ _ _ (Kp.fr (by assumption)) ?_; clear hret; refine congrArg Value.bool ?_; unfold isBareF; simp only [*, Bool.not_true, Bool.not_false, Bool.and_false, Bool.false_and, Bool.true_and, Bool.and_true]; done)
    | skip
  unfold Halt
  refine For_invV g (by rfl) (by rfl) ?_
  k_steps
  unfold Halt
  refine' iter_text (fun i _ => ∀ j, j < i → ∀ c, x.cps[j]? = some c → goesC c = true) ?a1 ?a2 ?a3 (fun j hj => absurd hj (Nat.not_lt_zero j)) ?_ ?_
  case a1 => rfl
  case a2 => assumption
  case a3 => assumption
  · intro i c t' m₁ h tk own hc hoff hJ F1 N1'
    have hl1 : (⟨#[c]⟩ : Str).length = 1 := rfl
    k_steps
    · unfold Halt
      refine inv_end (by assumption) (by assumption) ?_ (by simp) (by simp)
      intro j hj c' hc'
      by_cases e : j = i
      · subst e
        rw [hc] at hc'
        cases hc'
        show goesC (hdC ⟨#[c]⟩) = true
        assumption
      · exact hJ j (by omega) c' hc'
    · refine hret _ _ _ (Kp.fr (by assumption)) ?_
      refine congrArg Value.bool ?_
      have hm : c ∈ x.cps.toList := by
        have := Array.mem_of_getElem? hc
        simpa using this
      have h2 : x.cps.toList.all goesC = false := by
        rw [List.all_eq_false]
        refine ⟨c, hm, ?_⟩
        have e : goesC (hdC ⟨#[c]⟩) = false := by assumption
        have e2 : goesC c = false := e
        rw [e2]; simp
      unfold isBareF
      rw [h2, Bool.and_false]
  · intro m₁ h tk hJ F1 N1'
    k_steps
    refine hret _ _ _ (Kp.fr (by assumption)) ?_
    refine congrArg Value.bool ?_
    have h2 : x.cps.toList.all goesC = true := by
      rw [List.all_eq_true]
      intro c hc
      obtain ⟨j, hj, e⟩ := List.getElem_of_mem hc
      exact hJ j (by simpa using hj) c (by simp at hj; simp [hj, ← e])
    unfold isBareF
    simp only [*, Bool.not_true, Bool.not_false, Bool.and_false, Bool.false_and, Bool.true_and, Bool.and_true]
end

theorem off_A4 : True := by w_top off; trivial
section
local macro_rules | `(tactic| walk_at "call ref") => `(tactic| (k_here; (with_reducible refine here_at 271 ?_); k_dflt (refine' tell_use (is_bare_spec _ _ _ _ ?kp) ?k1 ?k2 ?k3 ?k4 ?k5 ?k6 ?k7 ?k8 ?_; (case kp => omega); (case k1 => k_asm); (case k2 => k_asm); (case k3 => k_asm); (case k4 => k_asm); (case k5 => k_asm); (case k6 => first | exact rfl | assumption); (case k7 => ktr_room); (case k8 => ktr_units); k_whole); intro r9 h' tk' F' N' Kq' hP; (try dsimp only at hP); (subst hP); (try dsimp only); (try k_sweep)))
theorem dbl_len (c : Nat) : ∀ l : List Nat, (StrLaws.dbl c l).length ≤ 2 * l.length
  | [] => by simp [StrLaws.dbl]
  | k :: r => by
    have := dbl_len c r
    unfold StrLaws.dbl
    split <;> simp <;> omega
noncomputable def quoteF (q : Nat) (x : Str) : Str := ⟨(q :: (StrLaws.dbl q x.cps.toList ++ [q])).toArray⟩
noncomputable def writeNameF (x : Str) : Str := if isBareF x then x else quoteF 34 x
theorem rep34 (x : Str) : (Txt.replace x (Str.ofString "\"") (Str.ofString "\"\"")).cps.toList = StrLaws.dbl 34 x.cps.toList := by
  have e1 : Str.ofString "\"" = ⟨#[34]⟩ := by decide +kernel
  have e2 : Str.ofString "\"\"" = ⟨#[34, 34]⟩ := by decide +kernel
  rw [e1, e2, StrLaws.replace_double]
theorem rep34_len (x : Str) : (Txt.replace x (Str.ofString "\"") (Str.ofString "\"\"")).length ≤ 2 * x.length := by
  have h := dbl_len 34 x.cps.toList
  rw [← rep34] at h
  simpa [Str.length] using h
theorem cat34 (x : Str) : Str.ofString "\"" ++ Txt.replace x (Str.ofString "\"") (Str.ofString "\"\"") ++ Str.ofString "\"" = quoteF 34 x := by
  have e1 : Str.ofString "\"" = ⟨#[34]⟩ := by decide +kernel
  refine PySem.Str.ext' (Array.toList_inj.mp ?_)
  rw [PySem.Str.cps_append, Array.toList_append, PySem.Str.cps_append, Array.toList_append, rep34, e1]
  rfl
theorem write_name_spec (w : World) (s : Shared) (x : Str) (t : Tok) (hx : x.length ≤ 1000) : Tell w 4 278 [.str x t] [] s (fun r _ => ∃ t', r = .str (writeNameF x) t') := by
  have hl := rep34_len x
  unfold Tell
  k_fill
  intro dp un gd cn cs fa ccd cl outer A₀ base h₀ L m mean mg mb news Q E B F X N T hk hf hd hu hret
  have N1 : News h₀ L s.heap [] := News.nil
  refine wpAny_call ?_
  k_dflt (refine' enterM (binds := [(Str.ofString "name", .str x t)]) ?k1 ?k2 ?k3 ?k4 ?k5 ?kA ?kF ?kK ?k6 ?k7 ?k8 ?k9 ?kB ?_ ?c2 ?c3 ?c4 ?c5; (case kA => exact rfl); (case kF => exact rfl); (case kK => assumption); (case k1 => k_asm); (case k2 => k_asm); (case k3 => k_asm); (case k4 => exact N1); (case k5 => k_asm); (case k6 => k_is); (case k7 => k_is); (case k8 => ktr_room); (case k9 => exact BindsTo.of_eq rfl); (case c5 => decide); (case kB => exact locs rfl); (case c2 => exact rfl); (case c3 => exact rfl); (case c4 => exact rfl); k_whole)
  intro g L' h₁ tk₁ Kp F' N' B' X' T' l1
  (try k_lt l1)
  (try dsimp only)
  (try k_lift B')
  refine wpAny_gen (fun R0 hR0 => ?_)
  replace hret := fun r h' tk' k p => hR0 (.ok (.ret r)) _ (hret r h' tk' k p)
  clear hR0
  (try k_fold)

  k_steps
  · refine hret _ _ _ (Kp.fr (by assumption)) ?_
    exact ⟨_, by rw [writeNameF, if_pos (by assumption)]⟩
  · refine hret _ _ _ (Kp.fr (by assumption)) ?_
    exact ⟨_, by rw [writeNameF, if_neg (by simp [*]), cat34]⟩
end

theorem off_Fc : True := by w_top off; trivial
section
section
variable {prog : Program} {w : World} {A₀ A : Around} {s : Shared} {base h₀ : Heap} {outer : List Env} {L : Addr} {m : Str → Option Value} {env : Env} {news : List (Addr × Obj)} {K : Frag}
  {p : Program} {loose : List Str} {mean : ExcName → Option Value} {mg mb : Str → Option Value}
  {R : Result → Shared → Prop} {name qual : Str} {params : Arguments} {body : List Stmt} {scope : Scope} {dV kV doc pm cdv ct oc : Value} {an od : Option Addr} {osl : Array (Option Value)} {f : Addr} {args : Args} {binds : List (Str × Value)}
theorem enterC (B : Below A₀ base outer h₀) (F : Fr h₀ L s.heap m) (X₀ : K.In h₀) (N : News h₀ L s.heap news) (T : Top p loose mean mg mb h₀) (hA : A.frames = some (env :: outer)) (hf : env.frame = some L) (hke : env.scope.kind = .function)
    (ho : K.lookup f = some ⟨oc, od, .func (fnOf name qual params body scope dV kV doc pm an cdv ct), osl⟩) (hcd : codeIn K cdv qual = true) (hroom : A.depth < recursionLimit)
    (hbind : BindsTo s (fnOf name qual params body scope dV kV doc pm an cdv ct) args binds) (hkind : (binds.all fun y => scope.names.lookup y.1 == some .local || scope.names.lookup y.1 == some .cell) = true)
    (hnd : ((cellsFrom 0 scope.names []).map (·.1)).Nodup)
    (h : ∀ g L' h₁ tk cells, Keeps (news.map (·.1)) s.heap g → Fr g L' h₁ (bindL (envOfC qual scope L' f cdv).kindOf binds fun _ => none) → News g L' h₁ (cells ++ news) →
      CellsAre (bindC (envOfC qual scope L' f cdv).kindOf binds fun _ => none) (cellsFrom (L' + 1) scope.names []) cells → Below A base (env :: outer) g → K.In g → Top p loose mean mg mb g → (∀ q ∈ news, q.1 < L') →
      wpAny (model prog w) (A.deeper (envOfC qual scope L' f cdv)) (execs body (envOfC qual scope L' f cdv))
        (fun fl s' => LeaveK h₀ L m g R (match fl with | .ret v => v | _ => .none) s')
        (fun e s' => wpAny (model prog w) (A.deeper (envOfC qual scope L' f cdv)) (leaving (envOfC qual scope L' f cdv) e) (fun _ s'' => R (.error e) s'') (fun e' s'' => R (.error e') s'') s')
        { s with heap := h₁, toks := tk })
    (hco : scope.isCoroutine = false) (hgen : scope.isGenerator = false) (hk : scope.kind = .function) : codeAny (model prog w) A (.call (.ref f) args) R s := by
  refine named (fun G9 hG9 => ?_)
  obtain ⟨FG, BG, st, lv⟩ := groundX (R := R) B F N hA hf hke
  refine hG9 ?_
  clear hG9 G9
  refine codeAny_call_function hroom (X₀.keeps F.keep _ _ ho) rfl hco hgen rfl (codeRec_of (X₀.keeps F.keep) hcd) (hbind _ _ _ _ ?_)
  refine wpAny_newFunctionEnv_cells hk (kindsX hkind _) fun env' he s' x => ?_
  subst he
  refine ⟨(T.nolimit.keeps F.keep).keeps x.toInCall.keep, codeAny_func ?_⟩
  refine named (fun G9 hG9 => ?_)
  obtain ⟨h₁, tk, rfl, _⟩ := x.done
  refine hG9 ?_
  clear hG9 G9
  have hk₁ := x.toInCall.keep
  obtain ⟨cells, NC, Y⟩ := Cl.news (h₀ := s.heap) (Nat.le_refl _) fun n c hm => ⟨x.cell n c (lookup_of_mem_nodup (cellsFrom_names scope.names 0 (s.heap.objs.size + 1) [] [] rfl ▸ hnd) hm), x.above n c hm⟩
  refine wpAny_mono (h _ s.heap.objs.size h₁ tk cells (fun b o n e => hideAll_get _ e n) ⟨x.toInCall.ns, fun b o e => hk₁ b o (of_hideAll _ e), Nat.le_of_eq (hideAll_size _ _)⟩ (fun q hq => ?_) Y BG (X₀.keeps st) (T.keeps st) (fun q hq => Heap.lt_size (N q hq).1)) (fun fl s' hl => lv _ _ hl) fun _ _ y => y
  rcases List.mem_append.mp hq with hq | hq
  · refine ⟨(NC q hq).1, (NC q hq).2.1, ?_⟩
    cases e : (hideAll s.heap (news.map (·.1))).get? q.1 with
    | none => rfl
    | some o => have := of_hideAll _ e; rw [(NC q hq).2.2] at this; cases this
  · exact ⟨hk₁ _ _ (N q hq).1, Nat.ne_of_lt (Heap.lt_size (N q hq).1), hideAll_none _ (List.mem_map_of_mem hq)⟩
end
inductive IsSrc (h : Heap) (l : Addr) : Prop
  | mk (A B : Int) (ta tb : Tok) (n : Nat) (a : 0 ≤ A) (b : 0 ≤ B) (c : B < 2147483647) (e : h.get? l = some (listOf #[.int A ta, .int B tb] n)) : IsSrc h l
inductive SrcLed (g : Heap) (L : Addr) (h' : Heap) (l : Addr) (rest : List (Addr × Obj)) : Prop
  | mk (A B : Int) (ta tb : Tok) (n : Nat) (a : 0 ≤ A) (b : 0 ≤ B) (c : B < 2147483647) (N : News g L h' ((l, listOf #[.int A ta, .int B tb] n) :: rest)) : SrcLed g L h' l rest
noncomputable def Made (h h' : Heap) (made : List (Addr × Obj)) : Prop := ∀ q ∈ made, h'.get? q.1 = some q.2 ∧ h.get? q.1 = none
theorem IsSrc.lt {h : Heap} {l : Addr} (i : IsSrc h l) : l < h.objs.size := by
  refine named (fun G9 hG9 => ?_)
  obtain ⟨A, B, ta, tb, n, _, _, _, e⟩ := i
  refine hG9 ?_
  clear hG9 G9
  exact Heap.lt_size e
theorem IsSrc.of {h h' : Heap} {l : Addr} (i : IsSrc h l) (k : ∀ o, h.get? l = some o → h'.get? l = some o) : IsSrc h' l := by
  refine named (fun G9 hG9 => ?_)
  obtain ⟨A, B, ta, tb, n, a, b, c, e⟩ := i
  refine hG9 ?_
  clear hG9 G9
  exact ⟨A, B, ta, tb, n, a, b, c, k _ e⟩
theorem none_ge {h : Heap} {a : Addr} (ha : h.objs.size ≤ a) : h.get? a = none := by
  cases e : h.get? a with
  | none => rfl
  | some o' => exact absurd (Heap.lt_size e) (Nat.not_lt.mpr ha)

/-- a comprehension over range(N) whose element changes the one object l, and makes objects -/
theorem fr_of {h₀ h h' : Heap} {L l : Addr} {m : Str → Option Value} {o : Obj} {rest : List (Addr × Obj)} (F : Fr h₀ L h m) (N : News h₀ L h ((l, o) :: rest)) (k : Keeps [l] h h') : Fr h₀ L h' m := by
  refine fr_keeps F N (foot := [l]) (fun x hx => ?_) k
  cases List.mem_singleton.mp hx
  exact ⟨o, List.Mem.head _⟩
theorem src_led {g h h' : Heap} {L l : Addr} {o : Obj} {rest : List (Addr × Obj)} (N : News g L h ((l, o) :: rest)) (hr : ∀ p ∈ rest, p.1 ≠ l) (K : Keeps [l] h h') (i : IsSrc h' l) :
    SrcLed g L h' l rest := by
  refine named (fun G9 hG9 => ?_)
  obtain ⟨A, B, ta, tb, n, a, b, c, e⟩ := i
  refine hG9 ?_
  clear hG9 G9
  exact ⟨A, B, ta, tb, n, a, b, c, news_one N (List.Mem.head _) e fun p hp => ⟨K _ _ (by simpa using hr p hp) (N p (List.Mem.tail _ hp)).1, (N p (List.Mem.tail _ hp)).2⟩⟩
theorem comp_eff {w : World} {Ar : Around} {E : Value → Shared → Prop} {s : Shared} {env : Env} {elt iter : Expr} {x y : Str} {px py : Pos} {scope : Scope} {pos spos : Pos} {cl : List (Str × Addr)} {Q : Flow → Shared → Prop} {h₀ : Heap} {m : Str → Option Value}
    (F₀ : Fr h₀ env.locals s.heap m) (l : Addr) (G : List (Addr × Obj) → Value → Prop) (hGm : ∀ mk mk' v, G mk v → (∀ q ∈ mk, q ∈ mk') → G mk' v)
    (hsw : swapsWith (.ListComp elt [⟨.Name x px, iter, [], 0⟩] scope pos) (some (.Name y py)) spos.line env = pure true)
    (hh : Ar.handled = none) (hclos : closureFor scope env = pure cl) (hcell : ∀ y ∈ scope.names, y.2 ≠ .cell) (hkind : scope.kind = .function)
    (hnames : ∀ y ∈ scope.names, y.2 = .local → scope.names.lookup y.1 = some .local) (hx : scope.names.lookup x = some .local)
    (hy : env.kindOf y = some .local) (hp : (env.scope.kind == .class || (env.scope.kind == .module && env.locals != env.globals)) = false)
    (h : wpAny (model P0 w) Ar (eval iter env) (fun xv s₁ => ∃ (R : Addr) (N : Int) (t u v : Tok) (o : Obj) (rest : List (Addr × Obj)), xv = .ref R ∧ IsRange s₁.heap R 0 N 1 t u v ∧ 0 ≤ N ∧ N ≤ 20 ∧ IsSrc s₁.heap l ∧
      Fr h₀ env.locals s₁.heap m ∧ News h₀ env.locals s₁.heap ((l, o) :: rest) ∧ (∀ p ∈ rest, p.1 ≠ l) ∧
      (∀ C h3 tk3 m₃ E' A B ta tb n, h3.Ns C m₃ → Fr h₀ env.locals h3 m → News h₀ env.locals h3 ((l, listOf #[.int A ta, .int B tb] n) :: rest) → 0 ≤ A → 0 ≤ B → B < 2147483647 →
        wpAny (model P0 w) Ar (eval elt (compEnvC scope cl C env)) (fun y s₄ => ∃ h4 tk4 mk, s₄ = { s₁ with heap := h4, toks := tk4 } ∧ Keeps [l] h3 h4 ∧ IsSrc h4 l ∧ Made h3 h4 mk ∧ G mk y) E' { s₁ with heap := h3, toks := tk3 }) ∧
      (∀ D h' tk (ys : Array Value) (k : Nat) mks A B ta tb n, ys.size = N.toNat → Fr h₀ env.locals h' (fun z => if z = y then some (.ref D) else m z) → News h₀ env.locals h' ((D, listOf ys k) :: (l, listOf #[.int A ta, .int B tb] n) :: (mks ++ rest)) → 0 ≤ A → 0 ≤ B → B < 2147483647 →
        (∀ y ∈ ys.toList, G mks y) → (∀ q ∈ mks, q.1 ≠ D ∧ q.1 ≠ l) → (∀ q ∈ mks, s₁.heap.get? q.1 = none) → s₁.heap.get? D = none → Q .next { s₁ with heap := h', toks := tk })) E s)
    (hs : ∀ x, foldedSetIterable iter env x = pure x := by intro _; rfl) :
    wpAny (model P0 w) Ar (exec (.Assign [.Name y py] (.ListComp elt [⟨.Name x px, iter, [], 0⟩] scope pos) spos) env) Q E s := by
  rw [exec_Assign_Name_used _ _ _ _ hsw]
  refine wpAny_bind (wpAny_standAt (wpAny_bind ?_))
  show wpAny _ Ar (do let _ ← comprehension (.ListComp elt [⟨.Name x px, iter, [], 0⟩] scope pos) scope env _ (newList []) false (eval iter env) (some (assign (.Name y py) env))) _ _ s
  refine wpAny_bind (wpAny_mono (wpAny_comprehension_free (use := some (assign (.Name y py) env)) (Q := fun _ s' => Q .next s') rfl hs hclos hkind hnames
    (wpAny_mono h (fun xv s₁ h₁ => ?_) fun _ _ e => e)) (fun _ s' hq => wpAny_pure (wpAny_pure hq)) fun _ _ e => e)
  refine named (fun G9 hG9 => ?_)
  obtain ⟨R, N, t, u, v, o₀, rest, rfl, hR, hN0, hN1, hsrc, F₁, N₁, hoff, hleaf, hQ⟩ := h₁
  refine hG9 ?_
  clear hG9 G9
  refine wpAny_pyIter_range hR (small_one (by decide) (by decide) (by omega) (by omega)) ?_
  have hsz : Builtin.Range.rangeSize 0 N 1 = (N.toNat : Int) := by rw [rangeSize_one]; split <;> omega
  rw [hsz]
  refine wpAny_newObj_type (wpAny_newFunctionEnv hcell (by intro y hy; simp at hy) (fun h₁ hns₁ hsb₁ => ?_) hkind)
  dsimp only at hns₁ hsb₁ ⊢
  generalize hH1 : s₁.heap.push { cls := .type "range_iterator", data := .fields #[rawInt 0, rawInt (N.toNat : Int), rawInt 1] } = H1 at hns₁ hsb₁ ⊢
  generalize hH2 : H1.push { cls := .type "list", dict := none, data := .seq ([] : List Value).toArray } = H2 at hns₁ hsb₁ ⊢
  have z1 : H1.objs.size = s₁.heap.objs.size + 1 := by rw [← hH1, Heap.size_push]
  have z2 : H2.objs.size = s₁.heap.objs.size + 2 := by rw [← hH2, Heap.size_push, z1]
  have hI : H1.get? s₁.heap.objs.size = some { cls := .type "range_iterator", data := .fields #[rawInt 0, rawInt (N.toNat : Int), rawInt 1] } := by rw [← hH1]; exact Heap.get?_push_size _ rfl
  have hD : H2.get? H1.objs.size = some (listOf #[] 0) := by rw [← hH2]; exact Heap.get?_push_size _ rfl
  have old1 : ∀ b o, s₁.heap.get? b = some o → H1.get? b = some o := fun b o e => by rw [← hH1]; exact Heap.get?_push_of_some _ e
  have old2 : ∀ b o, H1.get? b = some o → H2.get? b = some o := fun b o e => by rw [← hH2]; exact Heap.get?_push_of_some _ e
  have old3 : ∀ b o, H2.get? b = some o → h₁.get? b = some o := fun b o e => hsb₁.extBut b o (Nat.ne_of_lt (Heap.lt_size e)) (Heap.get?_push_of_some _ e)
  have hIne : s₁.heap.objs.size ≠ H1.objs.size ∧ s₁.heap.objs.size ≠ H2.objs.size ∧ H1.objs.size ≠ H2.objs.size := by
    refine ⟨Nat.ne_of_lt ?_, Nat.ne_of_lt ?_, Nat.ne_of_lt ?_⟩ <;> omega
  have hll := hsrc.lt
  have hlI : l ≠ s₁.heap.objs.size ∧ l ≠ H1.objs.size ∧ l ≠ H2.objs.size := by
    refine ⟨Nat.ne_of_lt hll, Nat.ne_of_lt ?_, Nat.ne_of_lt ?_⟩
    · rw [z1]; exact Nat.lt_succ_of_lt hll
    · rw [z2]; exact Nat.lt_succ_of_lt (Nat.lt_succ_of_lt hll)
  have W := Walks.range (prog := P0) (w := w) hh s₁.heap.objs.size 0 1 N.toNat
  have st0 : IsRangeIter h₁ s₁.heap.objs.size (0 + ((0 : Nat) : Int) * 1) ((N.toNat : Int) - ((0 : Nat) : Int)) 1 := by
    have e1 : (0 + ((0 : Nat) : Int) * 1) = 0 := by simp
    have e2 : ((N.toNat : Int) - ((0 : Nat) : Int)) = (N.toNat : Int) := by simp
    rw [e1, e2]
    exact old3 _ _ (old2 _ _ hI)
  generalize hIg : s₁.heap.objs.size = I at *
  generalize hDg : H1.objs.size = D at *
  generalize hCg : H2.objs.size = C at *
  have loop : ∀ s₃ : Shared, s₃ = { s₁ with heap := h₁, toks := s₁.toks + ([] : List (Str × Value)).length } →
      codeAny (model P0 w) Ar (.compLoop (.ListComp elt [⟨.Name x px, iter, [], 0⟩] scope pos) 0 (.ref I) (.ref D) (compEnvC scope cl C env))
        (compPost (model P0 w) Ar E (some (assign (.Name y py) env)) (fun _ s' => Q .next s') (.ref D) C) s₃ := by
    rintro s₃ rfl
    refine codeAny_compLoop_list (fun k s' => ∃ h' tk m' ys kk mks, s' = { s₁ with heap := h', toks := tk } ∧ IsRangeIter h' I (0 + ((ys : Array Value).size : Int) * 1) ((N.toNat : Int) - (ys.size : Int)) 1 ∧ h'.get? D = some (listOf ys kk) ∧ h'.Ns C m' ∧
      ys.size ≤ N.toNat ∧ k = N.toNat + 1 - ys.size ∧ Keeps [l] s₁.heap h' ∧ IsSrc h' l ∧ Made s₁.heap h' mks ∧ (∀ q ∈ mks, q.1 ≠ D ∧ q.1 ≠ C ∧ q.1 ≠ I ∧ q.1 ≠ l) ∧ ∀ y ∈ ys.toList, G mks y) ?_ (N.toNat + 1)
      ⟨h₁, _, _, #[], 0, [], rfl, st0, old3 _ _ hD, hns₁, Nat.zero_le _, rfl, fun b o _ e => old3 b o (old2 b o (old1 b o e)), hsrc.of (fun o e => old3 _ o (old2 _ o (old1 _ o e))), fun q hq => absurd hq List.not_mem_nil, fun q hq => absurd hq List.not_mem_nil, fun y hy => absurd hy (by simp)⟩
    rintro k s' ⟨H, tk, m', ys, kk, mks, rfl, hst', hacc', hn', hle, rfl, hk, hsr, hmk, hmo, hG⟩
    by_cases hlt : ys.size < N.toNat
    · refine W.item ys.size _ _ _ hlt hst' fun v ha tka _ hsta hka => ?_
      refine wpAny_assign_Name (wpAny_storeName_local (lookup_relabel_local hx) (hn'.at' fun o e => hka _ o (by simpa using hIne.2.1.symm) e) (fun hb hnb hsb => ?_) (by simp [compEnvC, relabel, hkind]))
      have upb : ∀ b o, b ≠ I → b ≠ C → H.get? b = some o → hb.get? b = some o := fun b o n1 n2 e => hsb.extBut b o n2 (hka b o (by simpa using n1) e)
      have lnI : l ≠ I := hlI.1
      have lnC : l ≠ C := hlI.2.2
      have kb : Keeps [l] s₁.heap hb := fun b o n e => upb b o (fun q => by rw [q] at e; rw [none_ge (by omega)] at e; cases e) (fun q => by rw [q] at e; rw [none_ge (by omega)] at e; cases e) (hk b o n e)
      have sb : IsSrc hb l := hsr.of fun o e => upb l o lnI lnC e
      have Db : hb.get? D = some (listOf ys kk) := upb D _ hIne.1.symm hIne.2.2 hacc'
      have Ib := hsb.extBut I _ hIne.2.1 hsta
      refine named (fun G9 hG9 => ?_)
      obtain ⟨A1, B1, ta1, tb1, n1, hA1, hB11, hB12, N3⟩ := src_led N₁ hoff kb sb
      refine hG9 ?_
      clear hG9 G9
      refine wpAny_mono (hleaf C _ _ _ _ _ _ _ _ _ hnb (fr_of F₁ N₁ kb) N3 hA1 hB11 hB12) (fun y s₄ h₄ => ?_) fun _ _ e => e
      refine named (fun G9 hG9 => ?_)
      obtain ⟨hc, tkc, mk, rfl, kc, sc, hmade, hgy⟩ := h₄
      refine hG9 ?_
      clear hG9 G9
      have Dc : hc.get? D = some (listOf ys kk) := kc D _ (by simpa using hlI.2.1.symm) Db
      refine wpAny_list_append_plain (items := ys) ⟨kk, Dc⟩ (fun hd hpd hsd => ?_) (Nat.le_trans (by omega) (show 1000 ≤ sizeLine by decide +kernel))
      obtain ⟨kk', hpd⟩ := hpd
      have fresh3 : ∀ q ∈ mk, q.1 ≠ D ∧ q.1 ≠ C ∧ q.1 ≠ I ∧ q.1 ≠ l ∧ s₁.heap.get? q.1 = none := by
        intro q hq
        have hn := (hmade q hq).2
        refine named (fun G9 hG9 => ?_)
        obtain ⟨oC, esC, epC, hoC, _⟩ := hnb
        refine hG9 ?_
        clear hG9 G9
        replace hoC : hb.get? C = some oC := hoC
        refine named (fun G9 hG9 => ?_)
        obtain ⟨A1, B1, ta1, tb1, n1, _, _, _, hol⟩ := sb
        refine hG9 ?_
        clear hG9 G9
        refine ⟨fun e => ?_, fun e => ?_, fun e => ?_, fun e => ?_, ?_⟩
        · rw [e] at hn; rw [show hb.get? D = none from hn] at Db; cases Db
        · rw [e] at hn; rw [show hb.get? C = none from hn] at hoC; cases hoC
        · rw [e] at hn; rw [show hb.get? I = none from hn] at Ib; cases Ib
        · rw [e] at hn; rw [show hb.get? l = none from hn] at hol; cases hol
        · cases e : s₁.heap.get? q.1 with
          | none => rfl
          | some o =>
            by_cases hql : q.1 = l
            · rw [hql] at hn; rw [show hb.get? l = none from hn] at hol; cases hol
            · rw [kb q.1 o (by simpa using hql) e] at hn; cases hn
      have hnd := (hnb.at' fun o e => kc C o (by simpa using hlI.2.2.symm) e).sameBut hsd hIne.2.2.symm
      refine ⟨N.toNat + 1 - (ys.size + 1), by omega, hd, tkc, _, ys.push y, kk', mk ++ mks, rfl, ?_, hpd, hnd, by rw [Array.size_push]; omega, by rw [Array.size_push], ?_, ?_, ?_, ?_, ?_⟩
      · have := hsd.extBut I _ hIne.1 (kc I _ (by simpa using hlI.1.symm) Ib)
        rw [Array.size_push]
        exact this
      · exact fun b o n e => hsd.extBut b o (fun q => by rw [q] at e; rw [none_ge (by omega)] at e; cases e) (kc b o n (kb b o n e))
      · exact sc.of fun o e => hsd.extBut l o hlI.2.1 e
      · intro q hq
        rcases List.mem_append.mp hq with h1 | h1
        · exact ⟨hsd.extBut q.1 _ (fresh3 q h1).1 (hmade q h1).1, (fresh3 q h1).2.2.2.2⟩
        · have ho := hmo q h1
          exact ⟨hsd.extBut q.1 _ ho.1 (kc q.1 _ (by simpa using ho.2.2.2) (upb q.1 _ ho.2.2.1 ho.2.1 (hmk q h1).1)), (hmk q h1).2⟩
      · intro q hq
        rcases List.mem_append.mp hq with h1 | h1
        · exact ⟨(fresh3 q h1).1, (fresh3 q h1).2.1, (fresh3 q h1).2.2.1, (fresh3 q h1).2.2.2.1⟩
        · exact hmo q h1
      · intro y' hy'
        rw [Array.toList_push] at hy'
        rcases List.mem_append.mp hy' with h1 | h1
        · exact hGm _ _ _ (hG y' h1) fun q hq => List.mem_append_right _ hq
        · cases List.mem_singleton.mp h1
          exact hGm _ _ _ hgy fun q hq => List.mem_append_left _ hq
    · have hin : ys.size = N.toNat := by omega
      refine W.done _ _ _ (hin ▸ hst') fun ha tka hka => ?_
      have kaI : ∀ b o, b ≠ I → H.get? b = some o → ha.get? b = some o := fun b o n e => hka b o (by simpa using n) e
      have k1 : Keeps [l] s₁.heap ha := fun b o n e => kaI b o (fun q => by rw [q] at e; rw [none_ge (by omega)] at e; cases e) (hk b o n e)
      have F' := fr_of F₁ N₁ k1
      have hLs : ∃ oL, s₁.heap.get? env.locals = some oL := by obtain ⟨oL, es, ep, hL, _⟩ := F₁.ns; exact ⟨oL, hL⟩
      obtain ⟨oL, hLs⟩ := hLs
      have nL : env.locals ≠ I ∧ env.locals ≠ C ∧ env.locals ≠ D := by
        refine ⟨fun q => ?_, fun q => ?_, fun q => ?_⟩ <;> (rw [q, none_ge (by omega)] at hLs; cases hLs)
      show wpAny _ Ar (assign (.Name y py) env (.ref D)) _ _ _
      refine wpAny_assign_Name (wpAny_storeName_local hy F'.ns (fun h₂ hn₂ hs₂ => ?_) hp)
      have hL₀ : h₀.get? env.locals = none := Heap.get?_none_of_le F'.above
      have F₂ : Fr h₀ env.locals h₂ (fun z => if z = y then some (.ref D) else m z) := ⟨hn₂, fun b o e => hs₂.extBut b o (fun q => by rw [q, hL₀] at e; cases e) (F'.keep b o e), F'.above⟩
      refine ⟨m', (hn'.at' fun o e => kaI _ o hIne.2.1.symm e).sameBut hs₂ nL.2.1.symm, fun hz hsz' => ?_⟩
      have hC₀ : h₀.get? C = none := by
        cases q : h₀.get? C with
        | none => rfl
        | some o => have := F₁.keep _ _ q; rw [none_ge (by omega)] at this; cases this
      have F₃ := F₂.change hsz' nL.2.1.symm hC₀
      have up : ∀ b o, b ≠ I → b ≠ C → b ≠ env.locals → H.get? b = some o → hz.get? b = some o := fun b o n1 n2 n3 e => hsz'.extBut b o n2 (hs₂.extBut b o n3 (kaI b o n1 e))
      have lL : l ≠ env.locals := (N₁ _ (List.Mem.head _)).2.1
      refine named (fun G9 hG9 => ?_)
      obtain ⟨A1, B1, ta1, tb1, n1, hA1, hB11, hB12, hol⟩ := hsr
      refine hG9 ?_
      clear hG9 G9
      refine hQ D hz _ ys kk mks A1 B1 ta1 tb1 n1 hin F₃ ?_ hA1 hB11 hB12 hG (fun q hq => ⟨(hmo q hq).1, (hmo q hq).2.2.2⟩) (fun q hq => (hmk q hq).2) (none_ge (by omega))
      intro p hp
      have new : ∀ a, s₁.heap.get? a = none → a ≠ env.locals ∧ h₀.get? a = none := by
        intro a e
        refine ⟨fun q => ?_, ?_⟩
        · rw [q, hLs] at e; cases e
        · cases q : h₀.get? a with
          | none => rfl
          | some o => rw [F₁.keep _ _ q] at e; cases e
      rcases List.mem_cons.mp hp with rfl | hp
      · have n := new D (none_ge (by omega))
        exact ⟨up D _ hIne.1.symm hIne.2.2 n.1 hacc', n⟩
      · rcases List.mem_cons.mp hp with rfl | hp
        · exact ⟨up l _ hlI.1 hlI.2.2 lL hol, (N₁ _ (List.Mem.head _)).2⟩
        · rcases List.mem_append.mp hp with hp | hp
          · have n := new _ (hmk _ hp).2
            exact ⟨up _ _ (hmo _ hp).2.2.1 (hmo _ hp).2.1 n.1 (hmk _ hp).1, n⟩
          · have hN := N₁ _ (List.Mem.tail _ hp)
            have hlt := Heap.lt_size hN.1
            exact ⟨up _ _ (fun q => by rw [q, none_ge (by omega)] at hN; cases hN.1) (fun q => by rw [q, none_ge (by omega)] at hN; cases hN.1) hN.2.1 (hk _ _ (by simpa using hoff _ hp) hN.1), hN.2⟩
  exact codeAny_compStart_list (loop _ rfl) (W.self 0 _ _ _ st0 (loop _ rfl))
theorem src_is {g h : Heap} {L l : Addr} {A B : Int} {ta tb : Tok} {n : Nat} {news : List (Addr × Obj)} (N : News g L h news) (hm : (l, listOf #[.int A ta, .int B tb] n) ∈ news) (a : 0 ≤ A) (b : 0 ≤ B) (c : B < 2147483647) : IsSrc h l := ⟨A, B, ta, tb, n, a, b, c, N.get hm⟩
noncomputable def RgOut (s : Shared) (g : Heap) (L' : Addr) (m : Str → Option Value) (l : Addr) (rest : List (Addr × Obj)) (b : Int) (xv : Value) (s₁ : Shared) : Prop :=
  ∃ h' tk N Rg t u v A B ta tb n, xv = .ref Rg ∧ s₁ = { s with heap := h', toks := tk } ∧ IsRange h' Rg 0 N 1 t u v ∧ 0 ≤ N ∧ N ≤ b ∧ Fr g L' h' m ∧ News g L' h' ((l, listOf #[.int A ta, .int B tb] n) :: rest) ∧ 0 ≤ A ∧ 0 ≤ B ∧ B < 2147483647
noncomputable def LeafOut (s : Shared) (l : Addr) (h3 : Heap) (G : List (Addr × Obj) → Value → Prop) (y : Value) (s₄ : Shared) : Prop :=
  ∃ h4 tk4 mk, s₄ = { s with heap := h4, toks := tk4 } ∧ Keeps [l] h3 h4 ∧ IsSrc h4 l ∧ Made h3 h4 mk ∧ G mk y
theorem comp_rg {w : World} {Ar : Around} {E : Value → Shared → Prop} {s : Shared} {env : Env} {elt iter : Expr} {x y : Str} {px py : Pos} {scope : Scope} {pos spos : Pos} {cl : List (Str × Addr)} {Q : Flow → Shared → Prop} {h₀ : Heap} {m : Str → Option Value}
    (F₀ : Fr h₀ env.locals s.heap m) (l : Addr) (rest : List (Addr × Obj)) (b : Int) (hb : b ≤ 20) (G : List (Addr × Obj) → Value → Prop) (hGm : ∀ mk mk' v, G mk v → (∀ q ∈ mk, q ∈ mk') → G mk' v)
    (hsw : swapsWith (.ListComp elt [⟨.Name x px, iter, [], 0⟩] scope pos) (some (.Name y py)) spos.line env = pure true)
    (hh : Ar.handled = none) (hclos : closureFor scope env = pure cl) (hcell : ∀ y ∈ scope.names, y.2 ≠ .cell) (hkind : scope.kind = .function)
    (hnames : ∀ y ∈ scope.names, y.2 = .local → scope.names.lookup y.1 = some .local) (hx : scope.names.lookup x = some .local)
    (hy : env.kindOf y = some .local) (hp : (env.scope.kind == .class || (env.scope.kind == .module && env.locals != env.globals)) = false)
    (hoff : ∀ p ∈ rest, p.1 ≠ l)
    (h : wpAny (model P0 w) Ar (eval iter env) (RgOut s h₀ env.locals m l rest b) E s)
    (leaf : ∀ C h3 tk3 m₃ E' A B ta tb n, h3.Ns C m₃ → Fr h₀ env.locals h3 m → News h₀ env.locals h3 ((l, listOf #[.int A ta, .int B tb] n) :: rest) → 0 ≤ A → 0 ≤ B → B < 2147483647 →
        wpAny (model P0 w) Ar (eval elt (compEnvC scope cl C env)) (LeafOut s l h3 G) E' { s with heap := h3, toks := tk3 })
    (fin : ∀ N D (h₁ h' : Heap) tk (ys : Array Value) (k : Nat) mks A B ta tb n, ((ys.size : Nat) : Int) = N → 0 ≤ N → N ≤ b → Fr h₀ env.locals h' (fun z => if z = y then some (.ref D) else m z) → News h₀ env.locals h' ((D, listOf ys k) :: (l, listOf #[.int A ta, .int B tb] n) :: (mks ++ rest)) → 0 ≤ A → 0 ≤ B → B < 2147483647 →
        (∀ y ∈ ys.toList, G mks y) → (∀ q ∈ mks, q.1 ≠ D ∧ q.1 ≠ l) → (∀ b o, h₀.get? b = some o → h₁.get? b = some o) → (∀ q ∈ mks, h₁.get? q.1 = none) → (∀ p ∈ (l, ()) :: rest.map (fun q => (q.1, ())), ∃ o, h₁.get? p.1 = some o) → h₁.get? D = none → Q .next { s with heap := h', toks := tk })
    (hs : ∀ x, foldedSetIterable iter env x = pure x := by intro _; rfl) :
    wpAny (model P0 w) Ar (exec (.Assign [.Name y py] (.ListComp elt [⟨.Name x px, iter, [], 0⟩] scope pos) spos) env) Q E s := by
  refine comp_eff F₀ l G hGm hsw hh hclos hcell hkind hnames hx hy hp (wpAny_mono h (fun xv s₁ hq => ?_) fun _ _ e => e) hs
  refine named (fun G9 hG9 => ?_)
  obtain ⟨h', tk', Nn, Rg, t, u, v, A, B, ta, tb, n, rfl, rfl, hR, hN0, hN1, F7, N7, hA7, hB7, hB7'⟩ := hq
  refine hG9 ?_
  clear hG9 G9
  refine ⟨Rg, Nn, t, u, v, _, rest, rfl, hR, hN0, by omega, src_is N7 (List.Mem.head _) hA7 hB7 hB7', F7, N7, hoff, ?_, ?_⟩
  · intro C h3 tk3 m₃ E' A B ta tb n hnC F8 N8 hA8 hB8 hB8'
    exact leaf C h3 tk3 m₃ E' A B ta tb n hnC F8 N8 hA8 hB8 hB8'
  · intro D h'' tk ys k mks A B ta tb n hsz F9 N9 hA9 hB9 hB9' hG hmo hmn hDn
    refine fin Nn D h' h'' tk ys k mks A B ta tb n (by omega) hN0 hN1 F9 N9 hA9 hB9 hB9' hG hmo F7.keep hmn ?_ hDn
    intro p hp
    rcases List.mem_cons.mp hp with rfl | hp
    · exact ⟨_, (N7 _ (List.Mem.head _)).1⟩
    · obtain ⟨q, hq, rfl⟩ := List.mem_map.mp hp
      exact ⟨_, (N7 _ (List.Mem.tail _ hq)).1⟩
end

theorem off_P4 : True := by w_top off; trivial
section
noncomputable def signsL : List Str := [Str.ofString "q", Str.ofString "Z", Str.ofString "_", Str.ofString "7", Str.ofString "$", Str.ofString "q", Str.ofString "Z", Str.ofString "7", Str.ofString "\"", Str.ofString " ", Str.ofString "'", Str.ofString "-", Str.ofString "]", Str.ofString "é", ⟨#[Int.toNat 128512]⟩]
noncomputable def strangeL : List Str := [Str.ofString "\"", Str.ofString " ", Str.ofString "'", Str.ofString "-", Str.ofString "]"]
theorem sgn1 : ∀ z ∈ signsL, z.cps.toList.all goesC = !(strangeL.any (· == z)) := by decide +kernel
theorem sgn2 : ∀ z ∈ signsL, z.cps.toList.length = 1 := by decide +kernel
theorem sgn3 : ∀ z ∈ signsL, beginsC (z.cps.toList.headD 0) = (!([Str.ofString "7", Str.ofString "$"].any (· == z)) && !(strangeL.any (· == z))) := by decide +kernel
noncomputable def goodHeads : List Nat := [81, 90, 95, 233, 128512]
theorem sgn4 : ∀ z ∈ signsL, beginsC (z.cps.toList.headD 0) = true → z.cps.toList.headD 0 < 128 → (Unicode.upperOf (z.cps.toList.headD 0)).headD 0 ∈ goodHeads ∧ (Unicode.upperOf (z.cps.toList.headD 0)) ≠ [] := by decide +kernel
theorem sgn5 : ∀ z ∈ signsL, beginsC (z.cps.toList.headD 0) = true → (foldSign z).cps.toList.headD 0 ∈ goodHeads ∧ (foldSign z).cps.toList ≠ [] := by decide +kernel
theorem hd1 : ∀ y ∈ reservedL ++ joiningL ++ quotedL, y.cps.toList.headD 0 ∉ goodHeads := by decide +kernel
theorem headD_append {a : Nat} {l r : List Nat} (h : l ≠ []) : (l ++ r).headD a = l.headD a := by
  cases l with
  | nil => exact absurd rfl h
  | cons x l => rfl
theorem placed_list (x : Str) (f : Nat → List Nat) : (placed x fun _ c => f c).toList = x.cps.toList.flatMap f := by
  unfold placed
  rw [Array.toList_flatten]
  rw [List.flatMap_def]
  congr 1
  apply List.ext_getElem
  · simp
  · intro i h1 h2
    simp
theorem any_no {L : List Str} {y : Str} (h : ∀ w ∈ L, w.cps.toList.headD 0 ∉ goodHeads) (hy : y.cps.toList.headD 0 ∈ goodHeads) : L.any (· == y) = false := by
  cases e : L.any (· == y) with
  | false => rfl
  | true =>
    obtain ⟨w, hw, e2⟩ := List.any_eq_true.mp e
    rw [beq_iff_eq] at e2
    subst e2
    exact absurd hy (h _ hw)
noncomputable def bareOf : List Str → Bool
  | [] => false
  | z :: r => !([Str.ofString "7", Str.ofString "$"].any (· == z)) && decide (((z :: r).filter fun z => strangeL.any (· == z)).length = 0)
theorem bare_signs (zs : List Str) (h : ∀ z ∈ zs, z ∈ signsL) : isBareF (Txt.join (Str.ofString "") zs) = bareOf zs := by
  cases zs with
  | nil => decide +kernel
  | cons z r =>
    have hj := join_nil (z :: r)
    generalize Txt.join (Str.ofString "") (z :: r) = x at hj
    have hz := h z (List.Mem.head _)
    obtain ⟨c, hc⟩ := List.length_eq_one_iff.mp (sgn2 z hz)
    rw [List.map_cons, List.flatten_cons, hc] at hj
    have hx0 : x.cps[0]? = some c := by
      have := congrArg (fun l : List Nat => l[0]?) hj
      simpa using this
    have hit : hdC (Txt.item x 0) = c := by
      have := item_nat (q := 0) hx0
      rw [show Txt.item x 0 = ⟨#[c]⟩ from this]
      rfl
    have hne : (x == Str.ofString "") = false := by
      rw [beq_eq_false_iff_ne]
      intro e
      rw [e] at hj
      have : (Str.ofString "").cps.toList = [] := by decide +kernel
      rw [this] at hj
      cases hj
    have hall : x.cps.toList.all goesC = (z :: r).all fun z => !(strangeL.any (· == z)) := by
      have e : x.cps.toList = ((z :: r).map (·.cps.toList)).flatten := by rw [List.map_cons, List.flatten_cons, hc, hj]
      rw [e, List.all_flatten, List.all_map]
      have : ∀ l : List Str, (∀ z ∈ l, z ∈ signsL) → (l.all ((fun l => l.all goesC) ∘ fun z => z.cps.toList)) = l.all fun z => !(strangeL.any (· == z)) := by
        intro l
        induction l with
        | nil => intro _; rfl
        | cons y l ih =>
          intro hl
          rw [List.all_cons, List.all_cons, ih fun z hz => hl z (List.Mem.tail _ hz)]
          congr 1
          exact sgn1 y (hl y (List.Mem.head _))
      exact this _ h
    have hfil : decide (((z :: r).filter fun z => strangeL.any (· == z)).length = 0) = (z :: r).all fun z => !(strangeL.any (· == z)) := by
      rw [Bool.eq_iff_iff, decide_eq_true_iff, List.length_eq_zero_iff, List.filter_eq_nil_iff, List.all_eq_true]
      simp only [Bool.not_eq_true, Bool.not_eq_true']
    unfold bareOf
    dsimp only
    rw [hfil, ← hall]
    unfold isBareF
    rw [hne, hit]
    have hb := sgn3 z hz
    have h4 := sgn4 z hz
    have h5 := sgn5 z hz
    rw [hc] at hb h4
    simp only [List.headD_cons] at hb h4
    cases ha : x.cps.toList.all goesC with
    | false => simp only [Bool.and_false]
    | true =>
      rw [hall] at ha
      have hzs := (List.all_eq_true.mp ha) z (List.Mem.head _)
      rw [hzs, Bool.and_true] at hb
      rw [hb]
      cases h7 : (!([Str.ofString "7", Str.ofString "$"].any fun x => x == z)) with
      | false => simp only [Bool.and_false, Bool.false_and]
      | true =>
        rw [h7] at hb
        have hz1 : z = ⟨#[c]⟩ := Str.ext' (Array.toList_inj.mp hc)
        rw [hz1] at h5
        have hfold : (foldedF x).cps.toList.headD 0 ∈ goodHeads := by
          unfold foldedF
          split
          · rename_i hasc
            have hc8 : c < 128 := by
              unfold Txt.isascii at hasc
              have hm : c ∈ x.cps := by
                rw [← Array.mem_toList_iff, hj]
                exact List.Mem.head _
              have := (Array.all_eq_true_iff_forall_mem.mp hasc) c hm
              simpa using this
            show (placed x fun _ c => Unicode.upperOf c).toList.headD 0 ∈ goodHeads
            rw [placed_list, hj]
            show (Unicode.upperOf c ++ _).headD 0 ∈ goodHeads
            rw [headD_append (h4 hb hc8).2]
            exact (h4 hb hc8).1
          · rw [join_nil]
            unfold signs
            rw [hj]
            show ((foldSign ⟨#[c]⟩).cps.toList ++ _).headD 0 ∈ goodHeads
            have h6 := h5 (by rw [show (⟨#[c]⟩ : Str).cps.toList.headD 0 = c from rfl]; exact hb)
            rw [headD_append h6.2]
            exact h6.1
        have q1 : reservedL.any (fun y => y == foldedF x) = false := any_no (fun w hw => hd1 w (List.mem_append_left _ (List.mem_append_left _ hw))) hfold
        have q2 : joiningL.any (fun y => y == foldedF x) = false := any_no (fun w hw => hd1 w (List.mem_append_left _ (List.mem_append_right _ hw))) hfold
        have q3 : quotedL.any (fun y => y == foldedF x) = false := any_no (fun w hw => hd1 w (List.mem_append_right _ hw)) hfold
        rw [q1, q2, q3]
        rfl
end

theorem off_B1 : True := by w_top off; trivial
local macro_rules | `(tactic| k_inst) => `(tactic| (refine' inst_base ?b1 ?b2 ?b3; (case b1 => k_asm); (case b2 => assumption); (case b3 => assumption)))
local macro_rules | `(tactic| k_handed) => `(tactic| assumption)
section
local macro_rules | `(tactic| walk_at "no such key") => `(tactic| skip)
local macro_rules | `(tactic| walk_at "no such key") => `(tactic| skip)
/-- a word's value, its token left out -/
inductive Wv where
  | none | str (s : Str) | int (i : Int) | bytes (a : Array UInt8)
inductive VIs : Value → Wv → Prop
  | none : VIs .none .none
  | str (s : Str) (t : Tok) : VIs (.str s t) (.str s)
  | int (i : Int) (t : Tok) : VIs (.int i t) (.int i)
  | bytes (a : Array UInt8) (t : Tok) : VIs (.bytes a t) (.bytes a)
structure Wd where
  kd : Str
  tx : Str
  val : Wv
abbrev wordEs (h1 h2 h3 h4 : Int) (t1 t2 t3 t4 ta tb : Tok) (kd tx : Str) (v p : Value) : List DictEntry :=
  [⟨h1, .str (Str.ofString "kind") t1, .str kd ta⟩, ⟨h2, .str (Str.ofString "text") t2, .str tx tb⟩, ⟨h3, .str (Str.ofString "value") t3, v⟩, ⟨h4, .str (Str.ofString "place") t4, p⟩]
inductive IsWord (h : Heap) (r : Value) (d : Wd) : Prop
  | mk (x dx : Addr) (h1 h2 h3 h4 : Int) (t1 t2 t3 t4 ta tb : Tok) (v p : Value) (e : r = .ref x) (a : h.get? x = some (instObj 147 dx)) (b : h.get? dx = some (dictOf (wordEs h1 h2 h3 h4 t1 t2 t3 t4 ta tb d.kd d.tx v p) 4)) (c : VIs v d.val) : IsWord h r d
theorem IsWord.keeps {h h' : Heap} {r : Value} {d : Wd} (i : IsWord h r d) (k : ∀ b o, h.get? b = some o → h'.get? b = some o) : IsWord h' r d := by
  refine named (fun G9 hG9 => ?_)
  obtain ⟨x, dx, h1, h2, h3, h4, t1, t2, t3, t4, ta, tb, v, p, e, a, b, c⟩ := i
  refine hG9 ?_
  clear hG9 G9
  exact ⟨x, dx, h1, h2, h3, h4, t1, t2, t3, t4, ta, tb, v, p, e, k _ _ a, k _ _ b, c⟩
theorem isWord_fr {g h : Heap} {L : Addr} {m : Str → Option Value} {r : Value} {d : Wd} (F : Fr g L h m) (W : IsWord g r d) : IsWord h r d := W.keeps F.keep
theorem VIs.handed {v : Value} {y : Wv} (i : VIs v y) : handedIn v = true := by cases i <;> rfl
noncomputable def isSignF (d : Wd) (y : Str) : Bool := d.kd == Str.ofString "sign" && d.tx == y
noncomputable def isKeyF (d : Wd) (y : Str) : Bool := d.kd == Str.ofString "name" && d.tx == y
noncomputable def isFreeF (d : Wd) : Bool := d.kd == Str.ofString "name" && !(reservedL.any (· == d.tx))
noncomputable def isPlainF (d : Wd) : Bool := isFreeF d && !(joiningL.any (· == d.tx))
theorem is_sign_spec (w : World) (s : Shared) (r : Value) (d : Wd) (y : Str) (t : Tok) (hw : IsWord s.heap r d) :
   Tell w 1 116 [r, .str y t] [] s (fun r _ => r = .bool (isSignF d y)) := by
  refine named (fun G9 hG9 => ?_)
  obtain ⟨x, dx, h1, h2, h3, h4, t1, t2, t3, t4, ta, tb, v, p, rfl, hx, hdx, hv⟩ := hw
  refine hG9 ?_
  clear hG9 G9
  obtain ⟨kd, tx, val⟩ := d
  unfold Tell
  k_fill
  intro dp un gd cn cs fa ccd cl outer A₀ base h₀ L m mean mg mb news Q E B F X N T hk hf hd hu hret
  have N1 : News h₀ L s.heap [] := News.nil
  refine wpAny_call ?_
  k_dflt (refine' enterM (binds := [(Str.ofString "self", .ref x), (Str.ofString "text", .str y t)]) ?k1 ?k2 ?k3 ?k4 ?k5 ?kA ?kF ?kK ?k6 ?k7 ?k8 ?k9 ?kB ?_ ?c2 ?c3 ?c4 ?c5; (case kA => exact rfl); (case kF => exact rfl); (case kK => assumption); (case k1 => k_asm); (case k2 => k_asm); (case k3 => k_asm); (case k4 => exact N1); (case k5 => k_asm); (case k6 => k_is); (case k7 => k_is); (case k8 => ktr_room); (case k9 => exact BindsTo.of_eq rfl); (case c5 => decide); (case kB => exact locs rfl); (case c2 => exact rfl); (case c3 => exact rfl); (case c4 => exact rfl); k_whole)
  intro g L' h₁ tk₁ Kp F' N' B' X' T' l1
  (try k_lt l1)
  (try dsimp only)
  (try k_lift B')
  refine wpAny_gen (fun R0 hR0 => ?_)
  replace hret := fun r h' tk' k p => hR0 (.ok (.ret r)) _ (hret r h' tk' k p)
  clear hR0
  (try k_fold)

  replace hx := Kp.get hx
  replace hdx := Kp.get hdx
  dsimp only [wordEs] at hdx
  k_steps
  all_goals (refine hret _ _ _ (Kp.fr (by assumption)) ?_; clear hret)
  all_goals (unfold isSignF; simp only [*, Bool.true_and, Bool.false_and])
theorem is_key_spec (w : World) (s : Shared) (r : Value) (d : Wd) (y : Str) (t : Tok) (hw : IsWord s.heap r d) :
   Tell w 1 123 [r, .str y t] [] s (fun r _ => r = .bool (isKeyF d y)) := by
  refine named (fun G9 hG9 => ?_)
  obtain ⟨x, dx, h1, h2, h3, h4, t1, t2, t3, t4, ta, tb, v, p, rfl, hx, hdx, hv⟩ := hw
  refine hG9 ?_
  clear hG9 G9
  obtain ⟨kd, tx, val⟩ := d
  unfold Tell
  k_fill
  intro dp un gd cn cs fa ccd cl outer A₀ base h₀ L m mean mg mb news Q E B F X N T hk hf hd hu hret
  have N1 : News h₀ L s.heap [] := News.nil
  refine wpAny_call ?_
  k_dflt (refine' enterM (binds := [(Str.ofString "self", .ref x), (Str.ofString "text", .str y t)]) ?k1 ?k2 ?k3 ?k4 ?k5 ?kA ?kF ?kK ?k6 ?k7 ?k8 ?k9 ?kB ?_ ?c2 ?c3 ?c4 ?c5; (case kA => exact rfl); (case kF => exact rfl); (case kK => assumption); (case k1 => k_asm); (case k2 => k_asm); (case k3 => k_asm); (case k4 => exact N1); (case k5 => k_asm); (case k6 => k_is); (case k7 => k_is); (case k8 => ktr_room); (case k9 => exact BindsTo.of_eq rfl); (case c5 => decide); (case kB => exact locs rfl); (case c2 => exact rfl); (case c3 => exact rfl); (case c4 => exact rfl); k_whole)
  intro g L' h₁ tk₁ Kp F' N' B' X' T' l1
  (try k_lt l1)
  (try dsimp only)
  (try k_lift B')
  refine wpAny_gen (fun R0 hR0 => ?_)
  replace hret := fun r h' tk' k p => hR0 (.ok (.ret r)) _ (hret r h' tk' k p)
  clear hR0
  (try k_fold)

  replace hx := Kp.get hx
  replace hdx := Kp.get hdx
  dsimp only [wordEs] at hdx
  k_steps
  all_goals (refine hret _ _ _ (Kp.fr (by assumption)) ?_; clear hret)
  all_goals (unfold isKeyF; simp only [*, Bool.true_and, Bool.false_and])
theorem is_free_spec (w : World) (s : Shared) (r : Value) (d : Wd) (hw : IsWord s.heap r d) :
   Tell w 1 130 [r] [] s (fun r _ => r = .bool (isFreeF d)) := by
  refine named (fun G9 hG9 => ?_)
  obtain ⟨x, dx, h1, h2, h3, h4, t1, t2, t3, t4, ta, tb, v, p, rfl, hx, hdx, hv⟩ := hw
  refine hG9 ?_
  clear hG9 G9
  obtain ⟨kd, tx, val⟩ := d
  unfold Tell
  k_fill
  intro dp un gd cn cs fa ccd cl outer A₀ base h₀ L m mean mg mb news Q E B F X N T hk hf hd hu hret
  have N1 : News h₀ L s.heap [] := News.nil
  refine wpAny_call ?_
  k_dflt (refine' enterM (binds := [(Str.ofString "self", .ref x)]) ?k1 ?k2 ?k3 ?k4 ?k5 ?kA ?kF ?kK ?k6 ?k7 ?k8 ?k9 ?kB ?_ ?c2 ?c3 ?c4 ?c5; (case kA => exact rfl); (case kF => exact rfl); (case kK => assumption); (case k1 => k_asm); (case k2 => k_asm); (case k3 => k_asm); (case k4 => exact N1); (case k5 => k_asm); (case k6 => k_is); (case k7 => k_is); (case k8 => ktr_room); (case k9 => exact BindsTo.of_eq rfl); (case c5 => decide); (case kB => exact locs rfl); (case c2 => exact rfl); (case c3 => exact rfl); (case c4 => exact rfl); k_whole)
  intro g L' h₁ tk₁ Kp F' N' B' X' T' l1
  (try k_lt l1)
  (try dsimp only)
  (try k_lift B')
  refine wpAny_gen (fun R0 hR0 => ?_)
  replace hret := fun r h' tk' k p => hR0 (.ok (.ret r)) _ (hret r h' tk' k p)
  clear hR0
  (try k_fold)

  replace hx := Kp.get hx
  replace hdx := Kp.get hdx
  dsimp only [wordEs] at hdx
  k_steps
  all_goals (refine hret _ _ _ (Kp.fr (by assumption)) ?_; clear hret)
  all_goals (unfold isFreeF; simp only [*, Bool.true_and, Bool.false_and])
local macro_rules | `(tactic| walk_at "call ref") => `(tactic| (k_here; (with_reducible refine here_at 130 ?_); k_dflt (refine' tell_use (is_free_spec _ _ _ _ ?kp) ?k1 ?k2 ?k3 ?k4 ?k5 ?k6 ?k7 ?k8 ?_; (case kp => assumption); (case k1 => k_asm); (case k2 => k_asm); (case k3 => k_asm); (case k4 => k_asm); (case k5 => k_asm); (case k6 => first | exact rfl | assumption); (case k7 => ktr_room); (case k8 => ktr_units); k_whole); intro r9 h' tk' F' N' Kq' hP; (try dsimp only at hP); (subst hP); (try dsimp only); (try k_sweep)))
theorem is_plain_spec (w : World) (s : Shared) (r : Value) (d : Wd) (hw : IsWord s.heap r d) :
   Tell w 2 137 [r] [] s (fun r _ => r = .bool (isPlainF d)) := by
  have hw0 := hw
  refine named (fun G9 hG9 => ?_)
  obtain ⟨x, dx, h1, h2, h3, h4, t1, t2, t3, t4, ta, tb, v, p, rfl, hx, hdx, hv⟩ := hw
  refine hG9 ?_
  clear hG9 G9
  unfold Tell
  k_fill
  intro dp un gd cn cs fa ccd cl outer A₀ base h₀ L m mean mg mb news Q E B F X N T hk hf hd hu hret
  have N1 : News h₀ L s.heap [] := News.nil
  refine wpAny_call ?_
  k_dflt (refine' enterM (binds := [(Str.ofString "self", .ref x)]) ?k1 ?k2 ?k3 ?k4 ?k5 ?kA ?kF ?kK ?k6 ?k7 ?k8 ?k9 ?kB ?_ ?c2 ?c3 ?c4 ?c5; (case kA => exact rfl); (case kF => exact rfl); (case kK => assumption); (case k1 => k_asm); (case k2 => k_asm); (case k3 => k_asm); (case k4 => exact N1); (case k5 => k_asm); (case k6 => k_is); (case k7 => k_is); (case k8 => ktr_room); (case k9 => exact BindsTo.of_eq rfl); (case c5 => decide); (case kB => exact locs rfl); (case c2 => exact rfl); (case c3 => exact rfl); (case c4 => exact rfl); k_whole)
  intro g L' h₁ tk₁ Kp F' N' B' X' T' l1
  (try k_lt l1)
  (try dsimp only)
  (try k_lift B')
  refine wpAny_gen (fun R0 hR0 => ?_)
  replace hret := fun r h' tk' k p => hR0 (.ok (.ret r)) _ (hret r h' tk' k p)
  clear hR0
  (try k_fold)

  replace hx := Kp.get hx
  replace hdx := Kp.get hdx
  dsimp only [wordEs] at hdx
  have hw1 : IsWord h₁ (.ref x) d := hw0.keeps (Kp.fr F').to
  k_steps
  all_goals (refine hret _ _ _ (Kp.fr (by assumption)) ?_; clear hret)
  all_goals (unfold isPlainF; simp only [*, Bool.true_and, Bool.false_and])
inductive RowNew (h h' : Heap) (r : Value) (d : Wd) : Prop
  | mk (a : Addr) (ta tb : Tok) (x : Value) (n : Nat) (e : r = .ref a) (ho : h'.get? a = some { cls := .type "tuple", data := .seq #[.str d.kd ta, .str d.tx tb, x] n }) (hv : VIs x d.val) (hf : h.get? a = none) : RowNew h h' r d
theorem row_spec (w : World) (s : Shared) (r : Value) (d : Wd) (hw : IsWord s.heap r d) :
   Tell w 1 144 [r] [] s (fun r h' => RowNew s.heap h' r d) := by
  refine named (fun G9 hG9 => ?_)
  obtain ⟨x, dx, h1, h2, h3, h4, t1, t2, t3, t4, ta, tb, v, p, rfl, hx, hdx, hv⟩ := hw
  refine hG9 ?_
  clear hG9 G9
  unfold Tell
  k_fill
  intro dp un gd cn cs fa ccd cl outer A₀ base h₀ L m mean mg mb news Q E B F X N T hk hf hd hu hret
  have N1 : News h₀ L s.heap [] := News.nil
  refine wpAny_call ?_
  k_dflt (refine' enterM (binds := [(Str.ofString "self", .ref x)]) ?k1 ?k2 ?k3 ?k4 ?k5 ?kA ?kF ?kK ?k6 ?k7 ?k8 ?k9 ?kB ?_ ?c2 ?c3 ?c4 ?c5; (case kA => exact rfl); (case kF => exact rfl); (case kK => assumption); (case k1 => k_asm); (case k2 => k_asm); (case k3 => k_asm); (case k4 => exact N1); (case k5 => k_asm); (case k6 => k_is); (case k7 => k_is); (case k8 => ktr_room); (case k9 => exact BindsTo.of_eq rfl); (case c5 => decide); (case kB => exact locs rfl); (case c2 => exact rfl); (case c3 => exact rfl); (case c4 => exact rfl); k_whole)
  intro g L' h₁ tk₁ Kp F' N' B' X' T' l1
  (try k_lt l1)
  (try dsimp only)
  (try k_lift B')
  refine wpAny_gen (fun R0 hR0 => ?_)
  replace hret := fun r h' tk' k p => hR0 (.ok (.ret r)) _ (hret r h' tk' k p)
  clear hR0
  (try k_fold)

  replace hx := Kp.get hx
  replace hdx := Kp.get hdx
  dsimp only [wordEs] at hdx
  have hh := hv.handed
  k_steps
  rename News g L' _ _ => Nz
  have hn := (Nz _ (List.Mem.head _)).2.2
  refine hret _ _ _ (Kp.fr (by assumption)) ⟨_, _, _, _, _, rfl, Nz.get (List.Mem.head _), hv, ?_⟩
  generalize hq : s.heap.get? _ = q
  cases q with
  | none => rfl
  | some o => rw [Kp.get hq] at hn; cases hn
end

theorem off_B2 : True := by w_top off; trivial
local macro_rules | `(tactic| k_inst) => `(tactic| (refine' inst_mix ?b1 ?b2 ?b3 ?b4; (case b1 => k_asm); (case b2 => assumption); (case b3 => k_asm); (case b4 => k_mem)))
local macro_rules | `(tactic| walk_at "subscriptTail") => `(tactic| (k_here; (with_reducible show wpAny _ _ (subscriptTail _ _ (Value.ref _) (Value.int _ _)) _ _ _); (with_unfolding_all refine' item_base ?k0 ?k1 ?k2 ?k3 ?k4 ?_ ?k6; (case k0 => k_asm); (case k1 => assumption); (case k2 => assumption); (case k3 => assumption); (case k4 => assumption); (case k6 => with_unfolding_all rfl); k_whole)))
local macro_rules | `(tactic| walk_at "call ref") => `(tactic| (k_here; (with_reducible refine here_at 116 ?_); k_dflt (refine' tell_use (is_sign_spec _ _ _ _ _ _ ?kp) ?k1 ?k2 ?k3 ?k4 ?k5 ?k6 ?k7 ?k8 ?_; (case kp => (refine' isWord_fr ?F9 ?W9; (case F9 => k_asm); (case W9 => assumption))); (case k1 => k_asm); (case k2 => k_asm); (case k3 => k_asm); (case k4 => k_asm); (case k5 => k_asm); (case k6 => first | exact rfl | assumption); (case k7 => ktr_room); (case k8 => ktr_units); k_whole); intro r9 h' tk' F' N' Kq' hP; (try dsimp only at hP); (subst hP); (try dsimp only); (try k_sweep)))
local macro_rules | `(tactic| walk_at "call ref") => `(tactic| (k_here; (with_reducible refine here_at 123 ?_); k_dflt (refine' tell_use (is_key_spec _ _ _ _ _ _ ?kp) ?k1 ?k2 ?k3 ?k4 ?k5 ?k6 ?k7 ?k8 ?_; (case kp => (refine' isWord_fr ?F9 ?W9; (case F9 => k_asm); (case W9 => assumption))); (case k1 => k_asm); (case k2 => k_asm); (case k3 => k_asm); (case k4 => k_asm); (case k5 => k_asm); (case k6 => first | exact rfl | assumption); (case k7 => ktr_room); (case k8 => ktr_units); k_whole); intro r9 h' tk' F' N' Kq' hP; (try dsimp only at hP); (subst hP); (try dsimp only); (try k_sweep)))
local macro_rules | `(tactic| walk_at "call ref") => `(tactic| (k_here; (with_reducible refine here_at 130 ?_); k_dflt (refine' tell_use (is_free_spec _ _ _ _ ?kp) ?k1 ?k2 ?k3 ?k4 ?k5 ?k6 ?k7 ?k8 ?_; (case kp => (refine' isWord_fr ?F9 ?W9; (case F9 => k_asm); (case W9 => assumption))); (case k1 => k_asm); (case k2 => k_asm); (case k3 => k_asm); (case k4 => k_asm); (case k5 => k_asm); (case k6 => first | exact rfl | assumption); (case k7 => ktr_room); (case k8 => ktr_units); k_whole); intro r9 h' tk' F' N' Kq' hP; (try dsimp only at hP); (subst hP); (try dsimp only); (try k_sweep)))
section
abbrev streamEs (h1 h2 h3 h4 : Int) (t1 t2 t3 t4 ta : Tok) (tx hv : Value) (lw : Addr) (a : Int) : List DictEntry :=
  [⟨h1, .str (Str.ofString "text") t1, tx⟩, ⟨h2, .str (Str.ofString "words") t2, .ref lw⟩, ⟨h3, .str (Str.ofString "at") t3, .int a ta⟩, ⟨h4, .str (Str.ofString "heights") t4, hv⟩]
inductive IsStream (h : Heap) (x dx lw : Addr) (vs : List Value) (a : Int) : Prop
  | mk (h1 h2 h3 h4 : Int) (t1 t2 t3 t4 ta : Tok) (tx hv : Value) (n : Nat) (e1 : h.get? x = some (instObj 454 dx)) (e2 : h.get? dx = some (dictOf (streamEs h1 h2 h3 h4 t1 t2 t3 t4 ta tx hv lw a) 4)) (e3 : h.get? lw = some (listOf vs.toArray n)) : IsStream h x dx lw vs a
theorem IsStream.ne {h : Heap} {x dx lw : Addr} {vs : List Value} {a : Int} (i : IsStream h x dx lw vs a) : x ≠ dx ∧ lw ≠ dx := by
  refine named (fun G9 hG9 => ?_)
  obtain ⟨h1, h2, h3, h4, t1, t2, t3, t4, ta, tx, hv, n, e1, e2, e3⟩ := i
  refine hG9 ?_
  clear hG9 G9
  constructor
  · rintro rfl; rw [e1] at e2; have := congrArg Obj.cls (Option.some.inj e2); cases this
  · rintro rfl; rw [e3] at e2; exact absurd (congrArg Obj.cls (Option.some.inj e2)) (fun q => absurd (Value.type.inj q) (by decide))
theorem IsWord.off {h h' : Heap} {x dx lw : Addr} {vs : List Value} {a : Int} {r : Value} {d : Wd} (i : IsStream h x dx lw vs a) (w : IsWord h r d) (k : Keeps [dx] h h') : IsWord h' r d := by
  refine named (fun G9 hG9 => ?_)
  obtain ⟨h1, h2, h3, h4, t1, t2, t3, t4, ta, tx, hv, n, e1, e2, e3⟩ := i
  refine hG9 ?_
  clear hG9 G9
  refine named (fun G9 hG9 => ?_)
  obtain ⟨x', dx', g1, g2, g3, g4, u1, u2, u3, u4, ua, ub, v, p, e, a', b, c⟩ := w
  refine hG9 ?_
  clear hG9 G9
  refine ⟨x', dx', g1, g2, g3, g4, u1, u2, u3, u4, ua, ub, v, p, e, k _ _ ?_ a', k _ _ ?_ b, c⟩
  · intro m
    rw [List.mem_singleton.mp m, e2] at a'
    have := congrArg Obj.cls (Option.some.inj a'); cases this
  · intro m
    rw [List.mem_singleton.mp m, e2] at b
    have := congrArg (fun o : Option Obj => match o with | some ⟨_, _, .dict es _, _⟩ => es.toList.map DictEntry.key | _ => []) b
    have h0 := (List.cons.inj this).1
    exact absurd (Value.str.inj h0).1 (by decide +kernel)
theorem stream_end {g h : Heap} {L : Addr} {m : Str → Option Value} {x dx lw : Addr} {vs : List Value} {a : Int} {h1 h2 h3 h4 : Int} {t1 t2 t3 t4 ta : Tok} {tx hv : Value} {n : Nat} {news : List (Addr × Obj)} (F : Fr g L h m) (e1 : g.get? x = some (instObj 454 dx))
    (N : News g L h ((dx, dictOf (streamEs h1 h2 h3 h4 t1 t2 t3 t4 ta tx hv lw a) 4) :: news)) (e3 : g.get? lw = some (listOf vs.toArray n)) : IsStream h x dx lw vs a :=
  ⟨h1, h2, h3, h4, t1, t2, t3, t4, ta, tx, hv, n, F.keep _ _ e1, N.get (List.Mem.head _), F.keep _ _ e3⟩
theorem here_spec (w : World) (s : Shared) (x dx lw : Addr) (vs : List Value) (a : Int) (r : Value) (hS : IsStream s.heap x dx lw vs a) (ha : 0 ≤ a) (hb : a < 2 ^ 63) (hr : vs[a.toNat]? = some r) :
   Tell w 1 339 [.ref x] [] s (fun v _ => v = r) := by
  refine named (fun G9 hG9 => ?_)
  obtain ⟨h1, h2, h3, h4, t1, t2, t3, t4, ta, tx, hv, n, e1, e2, e3⟩ := hS
  refine hG9 ?_
  clear hG9 G9
  unfold Tell
  k_fill
  intro dp un gd cn cs fa ccd cl outer A₀ base h₀ L m mean mg mb news Q E B F X N T hk hf hd hu hret
  have N1 : News h₀ L s.heap [] := News.nil
  refine wpAny_call ?_
  k_dflt (refine' enterM (binds := [(Str.ofString "self", .ref x)]) ?k1 ?k2 ?k3 ?k4 ?k5 ?kA ?kF ?kK ?k6 ?k7 ?k8 ?k9 ?kB ?_ ?c2 ?c3 ?c4 ?c5; (case kA => exact rfl); (case kF => exact rfl); (case kK => assumption); (case k1 => k_asm); (case k2 => k_asm); (case k3 => k_asm); (case k4 => exact N1); (case k5 => k_asm); (case k6 => k_is); (case k7 => k_is); (case k8 => ktr_room); (case k9 => exact BindsTo.of_eq rfl); (case c5 => decide); (case kB => exact locs rfl); (case c2 => exact rfl); (case c3 => exact rfl); (case c4 => exact rfl); k_whole)
  intro g L' h₁ tk₁ Kp F' N' B' X' T' l1
  (try k_lt l1)
  (try dsimp only)
  (try k_lift B')
  refine wpAny_gen (fun R0 hR0 => ?_)
  replace hret := fun r h' tk' k p => hR0 (.ok (.ret r)) _ (hret r h' tk' k p)
  clear hR0
  (try k_fold)

  replace e1 := Kp.get e1
  replace e2 := Kp.get e2
  replace e3 := Kp.get e3
  dsimp only [streamEs] at e2
  k_steps
  all_goals (refine hret _ _ _ (Kp.fr (by assumption)) ?_; clear hret)
  rfl
theorem s_is_key_spec (w : World) (s : Shared) (x dx lw : Addr) (vs : List Value) (a : Int) (r : Value) (d : Wd) (y : Str) (t : Tok) (hS : IsStream s.heap x dx lw vs a) (ha : 0 ≤ a) (hb : a < 2 ^ 63) (hr : vs[a.toNat]? = some r) (hW : IsWord s.heap r d) :
   Tell w 2 374 [.ref x, .str y t] [] s (fun v _ => v = .bool (isKeyF d y)) := by
  refine named (fun G9 hG9 => ?_)
  obtain ⟨h1, h2, h3, h4, t1, t2, t3, t4, ta, tx, hv, n, e1, e2, e3⟩ := hS
  refine hG9 ?_
  clear hG9 G9
  unfold Tell
  k_fill
  intro dp un gd cn cs fa ccd cl outer A₀ base h₀ L m mean mg mb news Q E B F X N T hk hf hd hu hret
  have N1 : News h₀ L s.heap [] := News.nil
  refine wpAny_call ?_
  k_dflt (refine' enterM (binds := [(Str.ofString "self", .ref x), (Str.ofString "text", .str y t)]) ?k1 ?k2 ?k3 ?k4 ?k5 ?kA ?kF ?kK ?k6 ?k7 ?k8 ?k9 ?kB ?_ ?c2 ?c3 ?c4 ?c5; (case kA => exact rfl); (case kF => exact rfl); (case kK => assumption); (case k1 => k_asm); (case k2 => k_asm); (case k3 => k_asm); (case k4 => exact N1); (case k5 => k_asm); (case k6 => k_is); (case k7 => k_is); (case k8 => ktr_room); (case k9 => exact BindsTo.of_eq rfl); (case c5 => decide); (case kB => exact locs rfl); (case c2 => exact rfl); (case c3 => exact rfl); (case c4 => exact rfl); k_whole)
  intro g L' h₁ tk₁ Kp F' N' B' X' T' l1
  (try k_lt l1)
  (try dsimp only)
  (try k_lift B')
  refine wpAny_gen (fun R0 hR0 => ?_)
  replace hret := fun r h' tk' k p => hR0 (.ok (.ret r)) _ (hret r h' tk' k p)
  clear hR0
  (try k_fold)

  replace e1 := Kp.get e1
  replace e2 := Kp.get e2
  replace e3 := Kp.get e3
  replace hW := hW.keeps Kp.to
  dsimp only [streamEs] at e2
  refine named (fun G9 hG9 => ?_)
  obtain ⟨wx, wd, g1, g2, g3, g4, u1, u2, u3, u4, ua, ub, wv, wp, rfl, f1, f2, hvv⟩ := id hW
  refine hG9 ?_
  clear hG9 G9
  dsimp only [wordEs] at f2
  k_steps
  all_goals (refine hret _ _ _ (Kp.fr (by assumption)) ?_; clear hret)
  rfl
theorem go_spec (w : World) (s : Shared) (x dx lw : Addr) (vs : List Value) (a : Int) (r : Value) (d : Wd) (hS : IsStream s.heap x dx lw vs a) (ha : 0 ≤ a) (hb : a < 2 ^ 62) (hr : vs[a.toNat]? = some r) (hW : IsWord s.heap r d) (hk : d.kd ≠ Str.ofString "end") :
   Tell w 1 353 [.ref x] [dx] s (fun v h' => v = r ∧ IsStream h' x dx lw vs (a + 1)) := by
  have hne := hS.ne
  have hSS := hS
  refine named (fun G9 hG9 => ?_)
  obtain ⟨h1, h2, h3, h4, t1, t2, t3, t4, ta, tx, hv, n, e1, e2, e3⟩ := hS
  refine hG9 ?_
  clear hG9 G9
  have hb3 : a < 2 ^ 63 := by omega
  obtain ⟨kd, dtx, dval⟩ := d
  have hkk : (kd == Str.ofString "end") = false := by simpa using hk
  unfold Tell
  k_fill
  intro dp un gd cn cs fa ccd cl outer A₀ base h₀ L m mean mg mb news Q E B F X N T hk hf hd hu hret
  have N1 := news_foot N hf (List.mem_singleton.mpr rfl) e2 News.nil
  refine wpAny_call ?_
  k_dflt (refine' enterM (binds := [(Str.ofString "self", .ref x)]) ?k1 ?k2 ?k3 ?k4 ?k5 ?kA ?kF ?kK ?k6 ?k7 ?k8 ?k9 ?kB ?_ ?c2 ?c3 ?c4 ?c5; (case kA => exact rfl); (case kF => exact rfl); (case kK => assumption); (case k1 => k_asm); (case k2 => k_asm); (case k3 => k_asm); (case k4 => exact N1); (case k5 => k_asm); (case k6 => k_is); (case k7 => k_is); (case k8 => ktr_room); (case k9 => exact BindsTo.of_eq rfl); (case c5 => decide); (case kB => exact locs rfl); (case c2 => exact rfl); (case c3 => exact rfl); (case c4 => exact rfl); k_whole)
  intro g L' h₁ tk₁ Kp F' N' B' X' T' l1
  (try k_lt l1)
  (try dsimp only)
  (try k_lift B')
  refine wpAny_gen (fun R0 hR0 => ?_)
  replace hret := fun r h' tk' k p => hR0 (.ok (.ret r)) _ (hret r h' tk' k p)
  clear hR0
  (try k_fold)

  have hW1 : IsWord g r ⟨kd, dtx, dval⟩ := hW.off hSS Kp
  refine named (fun G9 hG9 => ?_)
  obtain ⟨wx, wd, g1, g2, g3, g4, u1, u2, u3, u4, ua, ub, wv, wp, rfl, f1, f2, hvv⟩ := hW1
  refine hG9 ?_
  clear hG9 G9
  dsimp only [wordEs] at f2
  replace e1 := Kp.at (by simpa using hne.1) e1
  replace e3 := Kp.at (by simpa using hne.2) e3
  dsimp only [streamEs] at N'
  k_steps
  · exact hret _ _ _ (Kp.fr (by assumption)) ⟨rfl, stream_end (by assumption) e1 (by assumption) e3⟩
  · exfalso; simp_all
theorem take_sign_spec (w : World) (s : Shared) (x dx lw : Addr) (vs : List Value) (a : Int) (r : Value) (d : Wd) (y : Str) (t : Tok) (hS : IsStream s.heap x dx lw vs a) (ha : 0 ≤ a) (hb : a < 2 ^ 62) (hr : vs[a.toNat]? = some r) (hW : IsWord s.heap r d) :
   Tell w 2 409 [.ref x, .str y t] [dx] s (fun v h' => v = .bool (isSignF d y) ∧ IsStream h' x dx lw vs (if isSignF d y then a + 1 else a)) := by
  have hne := hS.ne
  have hSS := hS
  refine named (fun G9 hG9 => ?_)
  obtain ⟨h1, h2, h3, h4, t1, t2, t3, t4, ta, tx, hv, n, e1, e2, e3⟩ := hS
  refine hG9 ?_
  clear hG9 G9
  have hb3 : a < 2 ^ 63 := by omega
  unfold Tell
  k_fill
  intro dp un gd cn cs fa ccd cl outer A₀ base h₀ L m mean mg mb news Q E B F X N T hk hf hd hu hret
  have N1 := news_foot N hf (List.mem_singleton.mpr rfl) e2 News.nil
  refine wpAny_call ?_
  k_dflt (refine' enterM (binds := [(Str.ofString "self", .ref x), (Str.ofString "text", .str y t)]) ?k1 ?k2 ?k3 ?k4 ?k5 ?kA ?kF ?kK ?k6 ?k7 ?k8 ?k9 ?kB ?_ ?c2 ?c3 ?c4 ?c5; (case kA => exact rfl); (case kF => exact rfl); (case kK => assumption); (case k1 => k_asm); (case k2 => k_asm); (case k3 => k_asm); (case k4 => exact N1); (case k5 => k_asm); (case k6 => k_is); (case k7 => k_is); (case k8 => ktr_room); (case k9 => exact BindsTo.of_eq rfl); (case c5 => decide); (case kB => exact locs rfl); (case c2 => exact rfl); (case c3 => exact rfl); (case c4 => exact rfl); k_whole)
  intro g L' h₁ tk₁ Kp F' N' B' X' T' l1
  (try k_lt l1)
  (try dsimp only)
  (try k_lift B')
  refine wpAny_gen (fun R0 hR0 => ?_)
  replace hret := fun r h' tk' k p => hR0 (.ok (.ret r)) _ (hret r h' tk' k p)
  clear hR0
  (try k_fold)

  have hW1 : IsWord g r d := hW.off hSS Kp
  refine named (fun G9 hG9 => ?_)
  obtain ⟨wx, wd, g1, g2, g3, g4, u1, u2, u3, u4, ua, ub, wv, wp, rfl, f1, f2, hvv⟩ := id hW1
  refine hG9 ?_
  clear hG9 G9
  dsimp only [wordEs] at f2
  replace e1 := Kp.at (by simpa using hne.1) e1
  replace e3 := Kp.at (by simpa using hne.2) e3
  dsimp only [streamEs] at N'
  k_steps
  · exact hret _ _ _ (Kp.fr (by assumption)) ⟨by simp only [*], by simp only [*, if_true]; exact stream_end (by assumption) e1 (by assumption) e3⟩
  · exact hret _ _ _ (Kp.fr (by assumption)) ⟨by simp only [*], by simp only [*]; exact stream_end (by assumption) e1 (by assumption) e3⟩
end

theorem off_B3 : True := by w_top off; trivial
section
local macro_rules | `(tactic| walk_at "no such key") => `(tactic| skip)
inductive StreamLed (g : Heap) (L : Addr) (h' : Heap) (dx lw : Addr) (a : Int) (rest : List (Addr × Obj)) : Prop
  | mk (h1 h2 h3 h4 : Int) (t1 t2 t3 t4 ta : Tok) (tx hv : Value) (N : News g L h' ((dx, dictOf (streamEs h1 h2 h3 h4 t1 t2 t3 t4 ta tx hv lw a) 4) :: rest)) : StreamLed g L h' dx lw a rest
theorem stream_next {g h h' : Heap} {L : Addr} {x dx lw : Addr} {vs : List Value} {a : Int} {rest news : List (Addr × Obj)} (N : News g L h news) (hm : ∃ o, (dx, o) ∈ news) (hr : ∀ p ∈ rest, p ∈ news ∧ p.1 ≠ dx) (K : Keeps [dx] h h') (i : IsStream h' x dx lw vs a) :
    StreamLed g L h' dx lw a rest := by
  refine named (fun G9 hG9 => ?_)
  obtain ⟨h1, h2, h3, h4, t1, t2, t3, t4, ta, tx, hv, n, e1, e2, e3⟩ := i
  refine hG9 ?_
  clear hG9 G9
  obtain ⟨o, ho⟩ := hm
  refine ⟨h1, h2, h3, h4, t1, t2, t3, t4, ta, tx, hv, news_one N ho e2 fun p hp => ?_⟩
  obtain ⟨q, hq⟩ := hr p hp
  exact ⟨K _ _ (by simpa using hq) (N p q).1, (N p q).2⟩
local macro_rules | `(tactic| walk_at "call ref") => `(tactic| (k_here; first | with_reducible refine halt_at 409 ?_ | with_reducible refine halt_at 353 ?_))
theorem need_sign_spec (w : World) (s : Shared) (x dx lw : Addr) (vs : List Value) (a : Int) (r : Value) (d : Wd) (y : Str) (t : Tok) (hS : IsStream s.heap x dx lw vs a) (ha : 0 ≤ a) (hb : a < 2 ^ 62) (hr : vs[a.toNat]? = some r) (hW : IsWord s.heap r d) (hy : isSignF d y = true) :
   Tell w 3 423 [.ref x, .str y t] [dx] s (fun v h' => v = .none ∧ IsStream h' x dx lw vs (a + 1)) := by
  have hne := hS.ne
  have hSS := hS
  refine named (fun G9 hG9 => ?_)
  obtain ⟨h1, h2, h3, h4, t1, t2, t3, t4, ta, tx, hv, n, e1, e2, e3⟩ := hS
  refine hG9 ?_
  clear hG9 G9
  unfold Tell
  k_fill
  intro dp un gd cn cs fa ccd cl outer A₀ base h₀ L m mean mg mb news Q E B F X N T hk hf hd hu hret
  have N1 := news_foot N hf (List.mem_singleton.mpr rfl) e2 News.nil
  refine wpAny_call ?_
  k_dflt (refine' enterM (binds := [(Str.ofString "self", .ref x), (Str.ofString "text", .str y t)]) ?k1 ?k2 ?k3 ?k4 ?k5 ?kA ?kF ?kK ?k6 ?k7 ?k8 ?k9 ?kB ?_ ?c2 ?c3 ?c4 ?c5; (case kA => exact rfl); (case kF => exact rfl); (case kK => assumption); (case k1 => k_asm); (case k2 => k_asm); (case k3 => k_asm); (case k4 => exact N1); (case k5 => k_asm); (case k6 => k_is); (case k7 => k_is); (case k8 => ktr_room); (case k9 => exact BindsTo.of_eq rfl); (case c5 => decide); (case kB => exact locs rfl); (case c2 => exact rfl); (case c3 => exact rfl); (case c4 => exact rfl); k_whole)
  intro g L' h₁ tk₁ Kp F' N' B' X' T' l1
  (try k_lt l1)
  (try dsimp only)
  (try k_lift B')
  refine wpAny_gen (fun R0 hR0 => ?_)
  replace hret := fun r h' tk' k p => hR0 (.ok (.ret r)) _ (hret r h' tk' k p)
  clear hR0
  (try k_fold)

  have hW1 : IsWord g r d := hW.off hSS Kp
  replace e1 := Kp.at (by simpa using hne.1) e1
  replace e3 := Kp.at (by simpa using hne.2) e3
  dsimp only [streamEs] at N'
  k_steps
  unfold Halt
  refine tell_useF (take_sign_spec w _ x dx lw vs a r d y t (stream_end F' e1 N' e3) ha hb hr (isWord_fr F' hW1)) (by assumption) (by assumption) (by assumption) (by assumption) (by assumption) (by rfl) (by ktr_room) (by ktr_units) (by simp) ?_
  intro v h' tk' F2 N2 K2 hP
  obtain ⟨rfl, hP⟩ := hP
  rw [hy] at hP
  refine named (fun G9 hG9 => ?_)
  obtain ⟨h1', h2', h3', h4', t1', t2', t3', t4', ta', tx', hv', N3⟩ := stream_next (rest := []) N2 ⟨_, List.Mem.head _⟩ (by simp) K2 hP
  refine hG9 ?_
  clear hG9 G9
  k_steps
  exact hret _ _ _ (Kp.fr (by assumption)) ⟨rfl, hP⟩
noncomputable def WordsAre (h : Heap) (vs : List Value) (ds : List Wd) : Prop := vs.length = ds.length ∧ ∀ (i : Nat) v d, vs[i]? = some v → ds[i]? = some d → IsWord h v d
theorem WordsAre.at {h : Heap} {vs : List Value} {ds rest : List Wd} {p : Nat} {d : Wd} (W : WordsAre h vs ds) (e : ds.drop p = d :: rest) : ∃ r, vs[p]? = some r ∧ IsWord h r d := by
  have hd : ds[p]? = some d := by
    have := congrArg List.head? e
    simpa using this
  have hp : p < ds.length := by
    have := List.getElem?_eq_some_iff.mp hd
    exact this.1
  have hv : vs[p]? = some (vs[p]'(by rw [W.1]; exact hp)) := List.getElem?_eq_getElem _
  exact ⟨_, hv, W.2 _ _ _ hv hd⟩
theorem WordsAre.next {ds rest : List Wd} {p : Nat} {d : Wd} (e : ds.drop p = d :: rest) : ds.drop (p + 1) = rest := by
  rw [← List.drop_drop, e]; rfl
theorem WordsAre.off {h h' : Heap} {x dx lw : Addr} {vs vs' : List Value} {a : Int} {ds : List Wd} (i : IsStream h x dx lw vs' a) (w : WordsAre h vs ds) (k : Keeps [dx] h h') : WordsAre h' vs ds :=
  ⟨w.1, fun j v d h1 h2 => (w.2 j v d h1 h2).off i k⟩
theorem need_name_spec (w : World) (s : Shared) (x dx lw : Addr) (vs : List Value) (a : Int) (r : Value) (d : Wd) (hS : IsStream s.heap x dx lw vs a) (ha : 0 ≤ a) (hb : a < 2 ^ 62) (hr : vs[a.toNat]? = some r) (hW : IsWord s.heap r d) (hy : isFreeF d = true) :
   Tell w 3 430 [.ref x] [dx] s (fun v h' => VIs v d.val ∧ IsStream h' x dx lw vs (a + 1)) := by
  have hne := hS.ne
  have hSS := hS
  have hb3 : a < 2 ^ 63 := by omega
  have hke : d.kd ≠ Str.ofString "end" := by
    intro e
    unfold isFreeF at hy
    rw [e] at hy
    exact absurd hy (by simp only [Bool.and_eq_true, not_and]; intro h; exact absurd h (by decide +kernel))
  refine named (fun G9 hG9 => ?_)
  obtain ⟨h1, h2, h3, h4, t1, t2, t3, t4, ta, tx, hv, n, e1, e2, e3⟩ := hS
  refine hG9 ?_
  clear hG9 G9
  unfold Tell
  k_fill
  intro dp un gd cn cs fa ccd cl outer A₀ base h₀ L m mean mg mb news Q E B F X N T hk hf hd hu hret
  have N1 := news_foot N hf (List.mem_singleton.mpr rfl) e2 News.nil
  refine wpAny_call ?_
  k_dflt (refine' enterM (binds := [(Str.ofString "self", .ref x)]) ?k1 ?k2 ?k3 ?k4 ?k5 ?kA ?kF ?kK ?k6 ?k7 ?k8 ?k9 ?kB ?_ ?c2 ?c3 ?c4 ?c5; (case kA => exact rfl); (case kF => exact rfl); (case kK => assumption); (case k1 => k_asm); (case k2 => k_asm); (case k3 => k_asm); (case k4 => exact N1); (case k5 => k_asm); (case k6 => k_is); (case k7 => k_is); (case k8 => ktr_room); (case k9 => exact BindsTo.of_eq rfl); (case c5 => decide); (case kB => exact locs rfl); (case c2 => exact rfl); (case c3 => exact rfl); (case c4 => exact rfl); k_whole)
  intro g L' h₁ tk₁ Kp F' N' B' X' T' l1
  (try k_lt l1)
  (try dsimp only)
  (try k_lift B')
  refine wpAny_gen (fun R0 hR0 => ?_)
  replace hret := fun r h' tk' k p => hR0 (.ok (.ret r)) _ (hret r h' tk' k p)
  clear hR0
  (try k_fold)

  have hW1 : IsWord g r d := hW.off hSS Kp
  refine named (fun G9 hG9 => ?_)
  obtain ⟨wx, wd, g1, g2, g3, g4, u1, u2, u3, u4, ua, ub, wv, wp, hrr, f1, f2, hvv⟩ := id hW1
  refine hG9 ?_
  clear hG9 G9
  have hwv := hvv.handed
  subst hrr
  dsimp only [wordEs] at f2
  replace e1 := Kp.at (by simpa using hne.1) e1
  replace e3 := Kp.at (by simpa using hne.2) e3
  dsimp only [streamEs] at N'
  k_steps
  unfold Halt
  rename News _ _ _ _ => N4
  rename Fr _ _ _ _ => F4
  refine tell_useF (go_spec w _ x dx lw vs a (.ref wx) d (stream_end F4 e1 N4 e3) ha hb hr (isWord_fr F4 hW1) hke) (by assumption) (by assumption) (by assumption) (by assumption) (by assumption) (by rfl) (by ktr_room) (by ktr_units) (by simp) ?_
  intro v h' tk' F2 N2 K2 hP
  obtain ⟨rfl, hP⟩ := hP
  refine named (fun G9 hG9 => ?_)
  obtain ⟨h1', h2', h3', h4', t1', t2', t3', t4', ta', tx', hv', N3⟩ := stream_next (rest := []) N2 ⟨_, List.Mem.head _⟩ (by simp) K2 hP
  refine hG9 ?_
  clear hG9 G9
  k_steps
  exact hret _ _ _ (Kp.fr (by assumption)) ⟨hvv, hP⟩
end

theorem off_B4 : True := by w_top off; trivial
local macro_rules | `(tactic| k_in) => `(tactic| (with_reducible first | assumption | exact in_keeps (by assumption) (by assumption)))
section
local macro_rules | `(tactic| walk_at "call ref") => `(tactic| (k_here; first | with_reducible refine halt_at 423 ?_ | with_reducible refine halt_at 430 ?_ | with_reducible refine halt_at 409 ?_))
local macro_rules | `(tactic| walk_at "WhileStep") => `(tactic| (refine halt ?_))
local macro_rules | `(tactic| walk_at "exec While") => `(tactic| (refine halt ?_))
noncomputable def sgn (y : String) : Wd := ⟨Str.ofString "sign", Str.ofString y, .none⟩
noncomputable def wordOf (n : Str) : Wd := if isBareF n then ⟨Str.ofString "name", foldedF n, .str n⟩ else ⟨Str.ofString "name", Str.ofString "", .str n⟩
noncomputable def after : List Str → List Wd
  | [] => [sgn ")"]
  | n :: r => sgn "," :: wordOf n :: after r
theorem wordOf_val (n : Str) : (wordOf n).val = .str n := by unfold wordOf; split <;> rfl
theorem wordOf_free (n : Str) : isFreeF (wordOf n) = true := by
  have e : reservedL.any (fun y => y == Str.ofString "") = false := by decide +kernel
  unfold wordOf isFreeF
  split
  · rename_i h
    unfold isBareF at h
    simp only [Bool.and_eq_true] at h
    simp only [beq_self_eq_true, Bool.true_and]
    exact h.1.1.1.2
  · simp only [beq_self_eq_true, Bool.true_and, e, Bool.not_false]
theorem VIs.strs {v : Value} {n : Str} (h : VIs v (.str n)) : ∃ t, v = .str n t := by cases h; exact ⟨_, rfl⟩
theorem stream_end2 {g h : Heap} {L : Addr} {m : Str → Option Value} {x dx lw : Addr} {vs : List Value} {a : Int} {h1 h2 h3 h4 : Int} {t1 t2 t3 t4 ta : Tok} {tx hv : Value} {n : Nat} {news : List (Addr × Obj)} (F : Fr g L h m) (e1 : g.get? x = some (instObj 454 dx))
    (N : News g L h news) (hm : (dx, dictOf (streamEs h1 h2 h3 h4 t1 t2 t3 t4 ta tx hv lw a) 4) ∈ news) (e3 : g.get? lw = some (listOf vs.toArray n)) : IsStream h x dx lw vs a :=
  ⟨h1, h2, h3, h4, t1, t2, t3, t4, ta, tx, hv, n, F.keep _ _ e1, N.get hm, F.keep _ _ e3⟩
theorem strs_lenB : ∀ {vs : List Value} {ys : List Str}, StrsAre vs ys → vs.length = ys.length
  | _, _, .nil => rfl
  | _, _, .cons _ _ h => by simp [strs_lenB h]
theorem strs_snocB {us : List Value} {ws : List Str} {x : Str} {t : Tok} (h : StrsAre us ws) : StrsAre (us ++ [.str x t]) (ws ++ [x]) := by
  induction h with
  | nil => exact .cons _ _ .nil
  | cons y u h ih => exact .cons _ _ ih
inductive JNames (x dx lw l6 : Addr) (ds rest : List Wd) (n : Str) (ns : List Str) (a : Nat) : Nat → (Str → Option Value) → List (Addr × Obj) → Prop
  | mk (rm don : List Str) (p : Nat) (its : Array Value) (kk : Nat) (h1 h2 h3 h4 : Int) (t1 t2 t3 t4 ta : Tok) (tx hv : Value) (e1 : ds.drop p = after rm ++ rest) (e2 : StrsAre its.toList don) (e3 : don ++ rm = n :: ns) (e4 : p + 2 * rm.length = a + 2 + 2 * ns.length) :
    JNames x dx lw l6 ds rest n ns a rm.length (fun y => if y = Str.ofString "found" then some (Value.ref l6) else List.lookup y [(Str.ofString "stream", Value.ref x)].reverse) [(l6, listOf its kk), (dx, dictOf (streamEs h1 h2 h3 h4 t1 t2 t3 t4 ta tx hv lw p) 4)]
theorem read_names_spec (w : World) (s : Shared) (x dx lw : Addr) (vs : List Value) (a : Nat) (ds rest : List Wd) (n : Str) (ns : List Str) (hS : IsStream s.heap x dx lw vs a) (hb : a < 2 ^ 60) (hW : WordsAre s.heap vs ds) (hl : ns.length ≤ 10)
   (hds : ds.drop a = sgn "(" :: wordOf n :: (after ns ++ rest)) :
   Tell w 4 318 [.ref x] [dx] s (fun v h' => ∃ l its k, v = .ref l ∧ h'.get? l = some (listOf its k) ∧ StrsAre its.toList (n :: ns) ∧ s.heap.get? l = none ∧ IsStream h' x dx lw vs (a + 1 + 2 * (n :: ns).length)) := by
  have hne := hS.ne
  have hSS := hS
  refine named (fun G9 hG9 => ?_)
  obtain ⟨h1, h2, h3, h4, t1, t2, t3, t4, ta, tx, hv, n0, e1, e2, e3⟩ := hS
  refine hG9 ?_
  clear hG9 G9
  unfold Tell
  k_fill
  intro dp un gd cn cs fa ccd cl outer A₀ base h₀ L m mean mg mb news Q E B F X N T hk hf hd hu hret
  have N1 := news_foot N hf (List.mem_singleton.mpr rfl) e2 News.nil
  refine wpAny_call ?_
  k_dflt (refine' enterM (binds := [(Str.ofString "stream", .ref x)]) ?k1 ?k2 ?k3 ?k4 ?k5 ?kA ?kF ?kK ?k6 ?k7 ?k8 ?k9 ?kB ?_ ?c2 ?c3 ?c4 ?c5; (case kA => exact rfl); (case kF => exact rfl); (case kK => assumption); (case k1 => k_asm); (case k2 => k_asm); (case k3 => k_asm); (case k4 => exact N1); (case k5 => k_asm); (case k6 => k_is); (case k7 => k_is); (case k8 => ktr_room); (case k9 => exact BindsTo.of_eq rfl); (case c5 => decide); (case kB => exact locs rfl); (case c2 => exact rfl); (case c3 => exact rfl); (case c4 => exact rfl); k_whole)
  intro g L' h₁ tk₁ Kp F' N' B' X' T' l1
  (try k_lt l1)
  (try dsimp only)
  (try k_lift B')
  refine wpAny_gen (fun R0 hR0 => ?_)
  replace hret := fun r h' tk' k p => hR0 (.ok (.ret r)) _ (hret r h' tk' k p)
  clear hR0
  (try k_fold)

  have hW1 : WordsAre g vs ds := hW.off hSS Kp
  replace e1 := Kp.at (by simpa using hne.1) e1
  replace e3 := Kp.at (by simpa using hne.2) e3
  dsimp only [streamEs] at N'
  k_steps
  unfold Halt
  obtain ⟨r, hr, hw⟩ := hW1.at hds
  have hds1 := WordsAre.next hds
  refine tell_useF (need_sign_spec w _ x dx lw vs a r (sgn "(") (Str.ofString "(") _ (stream_end (by assumption) e1 (by assumption) e3) (by omega) (by omega) (by simpa using hr) (hw.keeps (Fr.keep (by assumption))) (by decide +kernel)) (by assumption) (by assumption) (by assumption) (by assumption) (by assumption) (by rfl) (by ktr_room) (by ktr_units) (by simp) ?_
  intro v h' tk' F2 N2 K2 hP
  obtain ⟨rfl, hP⟩ := hP
  refine named (fun G9 hG9 => ?_)
  obtain ⟨h1', h2', h3', h4', t1', t2', t3', t4', ta', tx', hv', N3⟩ := stream_next (rest := []) N2 ⟨_, List.Mem.head _⟩ (by simp) K2 hP
  refine hG9 ?_
  clear hG9 G9
  clear N2
  k_steps
  unfold Halt
  obtain ⟨r2, hr2, hw2⟩ := hW1.at hds1
  have hds2 := WordsAre.next hds1
  refine tell_useF (need_name_spec w _ x dx lw vs (a + 1) r2 (wordOf n) (stream_end (by assumption) e1 (by assumption) e3) (by omega) (by omega) (by rw [show ((a : Int) + 1).toNat = a + 1 by omega]; exact hr2) (hw2.keeps (Fr.keep (by assumption))) (wordOf_free n)) (by assumption) (by assumption) (by assumption) (by assumption) (by assumption) (by rfl) (by ktr_room) (by ktr_units) (by simp) ?_
  intro v h'' tk'' F3 N4 K3 hP2
  obtain ⟨hv2, hP2⟩ := hP2
  rw [wordOf_val] at hv2
  obtain ⟨tn, rfl⟩ := hv2.strs
  refine named (fun G9 hG9 => ?_)
  obtain ⟨h1', h2', h3', h4', t1', t2', t3', t4', ta', tx', hv', N5⟩ := stream_next (rest := []) N4 ⟨_, List.Mem.head _⟩ (by simp) K3 hP2
  refine hG9 ?_
  clear hG9 G9
  clear N4 N3 F2 hv2
  k_steps
  rename_i l6 h6 l16 h7 F7 N7
  unfold Halt
  refine While_inv (h₀ := g) (L := L') (n₀ := ns.length) (JNames x dx lw l6 ds rest n ns a) F7 N7 ?_ ?_
  · refine ⟨ns, [n], a + 2, _, _, _, _, _, _, _, _, _, _, _, _, _, hds2, StrsAre.cons _ _ StrsAre.nil, rfl, by omega⟩
  · intro k m₁ news₁ h₁' tk₁' F8 N8 hJ
    refine named (fun G9 hG9 => ?_)
    obtain ⟨rm, don, p, its, kk, h1, h2, h3, h4, t1, t2, t3, t4, ta, tx, hv, hdp, hst, hdon, hpp⟩ := hJ
    refine hG9 ?_
    clear hG9 G9
    have hsz : its.size ≤ 20 := by
      have h1 := strs_lenB hst
      have h2 := congrArg List.length hdon
      simp at h1 h2
      omega
    have hoff : ∀ q ∈ [(l6, listOf its kk)], q ∈ [(l6, listOf its kk), (dx, dictOf (streamEs h1 h2 h3 h4 t1 t2 t3 t4 ta tx hv lw p) 4)] ∧ q.1 ≠ dx := by
      intro q hq
      cases List.mem_singleton.mp hq
      exact ⟨List.Mem.head _, Nat.ne_of_gt l16⟩
    have hfo : ∀ q ∈ [dx], ∃ o, (q, o) ∈ [(l6, listOf its kk), (dx, dictOf (streamEs h1 h2 h3 h4 t1 t2 t3 t4 ta tx hv lw p) 4)] := by
      intro q hq
      cases List.mem_singleton.mp hq
      exact ⟨_, List.Mem.tail _ (List.Mem.head _)⟩
    k_steps
    unfold Halt
    cases rm with
    | nil =>
      obtain ⟨r3, hr3, hw3⟩ := hW1.at hdp
      refine tell_useF (take_sign_spec w _ x dx lw vs p r3 (sgn ")") (Str.ofString ",") _ (stream_end2 F8 e1 N8 (List.Mem.tail _ (List.Mem.head _)) e3) (by omega) (by omega) (by simpa using hr3) (hw3.keeps F8.keep)) (by assumption) (by assumption) (by assumption) (by assumption) (by assumption) (by rfl) (by ktr_room) (by ktr_units) hfo ?_
      intro v h9 tk9 F9 N9 K9 hP9
      have esg : isSignF (sgn ")") (Str.ofString ",") = false := by decide +kernel
      rw [esg] at hP9
      obtain ⟨rfl, hP9⟩ := hP9
      simp only [Bool.false_eq_true, if_false] at hP9
      refine named (fun G9 hG9 => ?_)
      obtain ⟨g1, g2, g3, g4, u1, u2, u3, u4, ua, ux, uv, N10⟩ := stream_next N9 ⟨_, List.Mem.tail _ (List.Mem.head _)⟩ hoff K9 hP9
      refine hG9 ?_
      clear hG9 G9
      clear N9
      k_steps
      unfold Halt
      have hm2 : ∀ q ∈ [(l6, listOf its kk)], q ∈ [(dx, dictOf (streamEs g1 g2 g3 g4 u1 u2 u3 u4 ua ux uv lw p) 4), (l6, listOf its kk)] ∧ q.1 ≠ dx := by
        intro q hq
        cases List.mem_singleton.mp hq
        exact ⟨List.Mem.tail _ (List.Mem.head _), Nat.ne_of_gt l16⟩
      refine tell_useF (need_sign_spec w _ x dx lw vs p r3 (sgn ")") (Str.ofString ")") _ (stream_end2 F9 e1 N10 (List.Mem.head _) e3) (by omega) (by omega) (by simpa using hr3) (hw3.keeps F9.keep) (by decide +kernel)) (by assumption) (by assumption) (by assumption) (by assumption) (by assumption) (by rfl) (by ktr_room) (by ktr_units) (by simp) ?_
      intro v h10 tk10 F10 N11 K10 hP10
      obtain ⟨rfl, hP10⟩ := hP10
      refine named (fun G9 hG9 => ?_)
      obtain ⟨g1, g2, g3, g4, u1, u2, u3, u4, ua, ux, uv, N12⟩ := stream_next N11 ⟨_, List.Mem.head _⟩ hm2 K10 hP10
      refine hG9 ?_
      clear hG9 G9
      clear N11 N10
      k_steps
      refine hret _ _ _ (Kp.fr (by assumption)) ⟨l6, its, kk, rfl, News.get N12 (List.Mem.tail _ (List.Mem.head _)), ?_, ?_, ?_⟩
      · rw [List.append_nil] at hdon
        rw [← hdon]; exact hst
      · cases q : s.heap.get? l6 with
        | none => rfl
        | some o =>
          have z := (N12 (l6, listOf its kk) (List.Mem.tail _ (List.Mem.head _))).2.2
          rw [Kp l6 o (by simpa using Nat.ne_of_gt l16) q] at z
          cases z
      · have : ((p : Int) + 1) = (a + 1 + 2 * (n :: ns).length : Int) := by
          simp only [List.length_cons, List.length_nil] at hpp ⊢
          push_cast
          omega
        rw [← this]; exact hP10
    | cons n2 r =>
      obtain ⟨r3, hr3, hw3⟩ := hW1.at hdp
      have hdp2 := WordsAre.next hdp
      obtain ⟨r4, hr4, hw4⟩ := hW1.at hdp2
      have hdp3 := WordsAre.next hdp2
      refine tell_useF (take_sign_spec w _ x dx lw vs p r3 (sgn ",") (Str.ofString ",") _ (stream_end2 F8 e1 N8 (List.Mem.tail _ (List.Mem.head _)) e3) (by omega) (by omega) (by simpa using hr3) (hw3.keeps F8.keep)) (by assumption) (by assumption) (by assumption) (by assumption) (by assumption) (by rfl) (by ktr_room) (by ktr_units) hfo ?_
      intro v h9 tk9 F9 N9 K9 hP9
      have esg : isSignF (sgn ",") (Str.ofString ",") = true := by decide +kernel
      rw [esg] at hP9
      obtain ⟨rfl, hP9⟩ := hP9
      simp only [if_true] at hP9
      refine named (fun G9 hG9 => ?_)
      obtain ⟨g1, g2, g3, g4, u1, u2, u3, u4, ua, ux, uv, N10⟩ := stream_next N9 ⟨_, List.Mem.tail _ (List.Mem.head _)⟩ hoff K9 hP9
      refine hG9 ?_
      clear hG9 G9
      clear N9
      k_steps
      unfold Halt
      have hm2 : ∀ q ∈ [(l6, listOf its kk)], q ∈ [(dx, dictOf (streamEs g1 g2 g3 g4 u1 u2 u3 u4 ua ux uv lw (p + 1)) 4), (l6, listOf its kk)] ∧ q.1 ≠ dx := by
        intro q hq
        cases List.mem_singleton.mp hq
        exact ⟨List.Mem.tail _ (List.Mem.head _), Nat.ne_of_gt l16⟩
      refine tell_useF (need_name_spec w _ x dx lw vs (p + 1) r4 (wordOf n2) (stream_end2 F9 e1 N10 (List.Mem.head _) e3) (by omega) (by omega) (by rw [show ((p : Int) + 1).toNat = p + 1 by omega]; exact hr4) (hw4.keeps F9.keep) (wordOf_free n2)) (by assumption) (by assumption) (by assumption) (by assumption) (by assumption) (by rfl) (by ktr_room) (by ktr_units) (by simp) ?_
      intro v h10 tk10 F10 N11 K10 hP10
      obtain ⟨hv2, hP10⟩ := hP10
      rw [wordOf_val] at hv2
      obtain ⟨tn2, rfl⟩ := hv2.strs
      refine named (fun G9 hG9 => ?_)
      obtain ⟨g1, g2, g3, g4, u1, u2, u3, u4, ua, ux, uv, N12⟩ := stream_next N11 ⟨_, List.Mem.head _⟩ hm2 K10 hP10
      refine hG9 ?_
      clear hG9 G9
      clear N11 N10
      k_steps
      unfold Halt
      rename Fr _ _ _ _ => F13
      rename News _ _ _ _ => N13
      rw [show (((p : Int) + 1) + 1) = ((p + 2 : Nat) : Int) by omega] at N13
      refine WhileStep.intro (n' := r.length) F13 (news_sub N13 (news' := [(l6, listOf (its.push (.str n2 tn2)) (kk + 1)), (dx, dictOf (streamEs g1 g2 g3 g4 u1 u2 u3 u4 ua ux uv lw (p + 2 : Nat)) 4)]) ?_) (by simp) ⟨r, don ++ [n2], p + 2, _, _, _, _, _, _, _, _, _, _, _, _, _, hdp3, ?_, ?_, ?_⟩
      · intro q hq
        rcases List.mem_cons.mp hq with rfl | hq
        · exact List.Mem.tail _ (List.Mem.head _)
        · cases List.mem_singleton.mp hq
          exact List.Mem.head _
      · rw [Array.toList_push]
        exact strs_snocB hst
      · rw [← hdon, List.append_assoc]; rfl
      · simp only [List.length_cons] at hpp; omega
end

theorem off_B5 : True := by w_top off; trivial
local macro_rules | `(tactic| walk_at "ite") => `(tactic| (with_reducible first | refine ite_f ?_ | refine ite_t ?_))
section
local macro_rules | `(tactic| walk_at "WhileStep") => `(tactic| (refine halt ?_))
local macro_rules | `(tactic| walk_at "exec While") => `(tactic| (refine halt ?_))
local macro_rules | `(tactic| walk_at "call ref") => `(tactic| (k_here; first | with_reducible refine halt_at 353 ?_))
local macro_rules | `(tactic| walk_at "compareOp Eq ref ref") => `(tactic| (refine halt ?_))
local macro_rules | `(tactic| walk_at "call ref") => `(tactic| (k_here; first | with_reducible refine halt_at 339 ?_ | with_reducible refine halt_at 137 ?_ | with_reducible refine halt_at 409 ?_))
noncomputable def ValsAre (ws : List Wd) (ys : List Str) : Prop := ws.map (·.val) = ys.map Wv.str
theorem sum_le (B : Nat) : ∀ l : List Str, (∀ y ∈ l, y.length ≤ B) → (l.map (·.length)).sum ≤ B * l.length
  | [], _ => by simp
  | y :: l, h => by
    have ih := sum_le B l fun z hz => h z (List.Mem.tail _ hz)
    have := h y (List.Mem.head _)
    simp only [List.map_cons, List.sum_cons, List.length_cons, Nat.mul_succ]
    omega
inductive JType (x dx lw l6 : Addr) (ds rest ws : List Wd) (dn : Wd) (ys : List Str) (a : Nat) : Nat → (Str → Option Value) → List (Addr × Obj) → Prop
  | mk (rw : List Wd) (ry don : List Str) (p : Nat) (its : Array Value) (kk : Nat) (h1 h2 h3 h4 : Int) (t1 t2 t3 t4 ta : Tok) (tx hv : Value) (e1 : ds.drop p = rw ++ dn :: rest) (e2 : ValsAre rw ry) (e3 : StrsAre its.toList don) (e4 : don ++ ry = ys) (e5 : p + rw.length = a + ws.length) (e6 : ∀ d ∈ rw, isPlainF d = true) :
    JType x dx lw l6 ds rest ws dn ys a rw.length (fun y => if y = Str.ofString "parts" then some (Value.ref l6) else List.lookup y [(Str.ofString "stream", Value.ref x)].reverse) [(l6, listOf its kk), (dx, dictOf (streamEs h1 h2 h3 h4 t1 t2 t3 t4 ta tx hv lw p) 4)]
theorem read_type_spec (w : World) (s : Shared) (x dx lw : Addr) (vs : List Value) (a : Nat) (ds rest ws : List Wd) (dn : Wd) (ys : List Str) (hS : IsStream s.heap x dx lw vs a) (hb : a < 2 ^ 60) (hW : WordsAre s.heap vs ds)
   (hds : ds.drop a = ws ++ dn :: rest) (hys : ValsAre ws ys) (hl : ys.length ≤ 100) (hyl : ∀ y ∈ ys, y.length ≤ 1000) (hne0 : ys ≠ []) (hp : ∀ d ∈ ws, isPlainF d = true) (hdn : isPlainF dn = false) (hdn2 : isSignF dn (Str.ofString "(") = false) :
   Tell w 4 304 [.ref x] [dx] s (fun v h' => ∃ t, v = .str (Txt.join (Str.ofString " ") ys) t ∧ IsStream h' x dx lw vs (a + ws.length)) := by
  have hne := hS.ne
  have hSS := hS
  have hwl : ws.length ≤ 100 := by have := congrArg List.length hys; simp only [List.length_map] at this; omega
  refine named (fun G9 hG9 => ?_)
  obtain ⟨h1, h2, h3, h4, t1, t2, t3, t4, ta, tx, hv, n0, e1, e2, e3⟩ := hS
  refine hG9 ?_
  clear hG9 G9
  unfold Tell
  k_fill
  intro dp un gd cn cs fa ccd cl outer A₀ base h₀ L m mean mg mb news Q E B F X N T hk hf hd hu hret
  have N1 := news_foot N hf (List.mem_singleton.mpr rfl) e2 News.nil
  refine wpAny_call ?_
  k_dflt (refine' enterM (binds := [(Str.ofString "stream", .ref x)]) ?k1 ?k2 ?k3 ?k4 ?k5 ?kA ?kF ?kK ?k6 ?k7 ?k8 ?k9 ?kB ?_ ?c2 ?c3 ?c4 ?c5; (case kA => exact rfl); (case kF => exact rfl); (case kK => assumption); (case k1 => k_asm); (case k2 => k_asm); (case k3 => k_asm); (case k4 => exact N1); (case k5 => k_asm); (case k6 => k_is); (case k7 => k_is); (case k8 => ktr_room); (case k9 => exact BindsTo.of_eq rfl); (case c5 => decide); (case kB => exact locs rfl); (case c2 => exact rfl); (case c3 => exact rfl); (case c4 => exact rfl); k_whole)
  intro g L' h₁ tk₁ Kp F' N' B' X' T' l1
  (try k_lt l1)
  (try dsimp only)
  (try k_lift B')
  refine wpAny_gen (fun R0 hR0 => ?_)
  replace hret := fun r h' tk' k p => hR0 (.ok (.ret r)) _ (hret r h' tk' k p)
  clear hR0
  (try k_fold)

  have hW1 : WordsAre g vs ds := hW.off hSS Kp
  replace e1 := Kp.at (by simpa using hne.1) e1
  replace e3 := Kp.at (by simpa using hne.2) e3
  dsimp only [streamEs] at N'
  k_steps
  rename_i l6 h6 l16 h7 F7 N7
  unfold Halt
  refine While_inv (h₀ := g) (L := L') (n₀ := ws.length) (JType x dx lw l6 ds rest ws dn ys a) F7 N7 ?_ ?_
  · refine ⟨ws, ys, [], a, _, _, _, _, _, _, _, _, _, _, _, _, _, hds, hys, StrsAre.nil, rfl, rfl, hp⟩
  · intro k m₁ news₁ h₁' tk₁' F8 N8 hJ
    refine named (fun G9 hG9 => ?_)
    obtain ⟨rw, ry, don, p, its, kk, h1, h2, h3, h4, t1, t2, t3, t4, ta, tx, hv, hdp, hvr, hst, hdon, hpp, hpl⟩ := hJ
    refine hG9 ?_
    clear hG9 G9
    have hrl : rw.length = ry.length := by have := congrArg List.length hvr; simpa using this
    have hsz : its.size ≤ 200 := by
      have h1 := strs_lenB hst
      have h2 := congrArg List.length hdon
      simp at h1 h2
      omega
    have hoff : ∀ q ∈ [(l6, listOf its kk)], q ∈ [(l6, listOf its kk), (dx, dictOf (streamEs h1 h2 h3 h4 t1 t2 t3 t4 ta tx hv lw p) 4)] ∧ q.1 ≠ dx := by
      intro q hq
      cases List.mem_singleton.mp hq
      exact ⟨List.Mem.head _, Nat.ne_of_gt l16⟩
    have hfo : ∀ q ∈ [dx], ∃ o, (q, o) ∈ [(l6, listOf its kk), (dx, dictOf (streamEs h1 h2 h3 h4 t1 t2 t3 t4 ta tx hv lw p) 4)] := by
      intro q hq
      cases List.mem_singleton.mp hq
      exact ⟨_, List.Mem.tail _ (List.Mem.head _)⟩
    k_steps
    unfold Halt
    have hi8 := stream_end2 F8 e1 N8 (List.Mem.tail _ (List.Mem.head _)) e3
    cases rw with
    | nil =>
      obtain ⟨r3, hr3, hw3⟩ := hW1.at hdp
      refine tell_use (here_spec w _ x dx lw vs p r3 hi8 (by omega) (by omega) (by simpa using hr3)) (by assumption) (by assumption) (by assumption) (by assumption) (by assumption) (by rfl) (by ktr_room) (by ktr_units) ?_
      intro v h9 tk9 F9 N9 K9 hP9
      subst hP9
      have hww := hw3
      refine named (fun G9 hG9 => ?_)
      obtain ⟨wx, wd, g1, g2, g3, g4, u1, u2, u3, u4, ua, ub, wv, wp, rfl, f1, f2, hvv⟩ := hw3
      refine hG9 ?_
      clear hG9 G9
      dsimp only [wordEs] at f2
      k_steps
      unfold Halt
      refine tell_use (is_plain_spec w _ _ dn (hww.keeps F9.keep)) (by assumption) (by assumption) (by assumption) (by assumption) (by assumption) (by rfl) (by ktr_room) (by ktr_units) ?_
      intro v h10 tk10 F10 N10 K10 hP10
      rw [hdn] at hP10
      subst hP10
      k_steps
      unfold Halt
      have hry : ry = [] := List.length_eq_zero_iff.mp hrl.symm
      subst hry
      rw [List.append_nil] at hdon
      subst hdon
      have hszp : its.size ≠ 0 := by
        have h1 := strs_lenB hst
        have h2 : don.length ≠ 0 := fun q => hne0 (List.length_eq_zero_iff.mp q)
        simp at h1
        omega
      rename News _ _ _ _ => N11
      refine PySem.SeqAt.eq_list_lengthsAt (isList_of (News.get N11 (List.Mem.tail _ (List.Mem.head _)))) (isList_of (News.get N11 (List.Mem.head _))) (by simpa using hszp) (by ktr_units) ?_
      k_steps
      rename News _ _ _ _ => N12
      refine join_list (isList_of (News.get N12 (List.Mem.tail _ (List.Mem.head _)))) hst ?_ ?_
      · have h1 := sum_le 1000 don hyl
        have h2 : (Str.ofString " ").length = 1 := by decide +kernel
        rw [h2]
        omega
      intro tj kj
      k_steps
      unfold Halt
      rename Fr _ _ _ _ => F13
      rename News _ _ _ _ => N13
      refine tell_useF (take_sign_spec w _ x dx lw vs p (.ref wx) dn (Str.ofString "(") _ (stream_end2 F13 e1 N13 (List.Mem.tail _ (List.Mem.tail _ (List.Mem.head _))) e3) (by omega) (by omega) (by simpa using hr3) (hww.keeps F13.keep)) (by assumption) (by assumption) (by assumption) (by assumption) (by assumption) (by rfl) (by ktr_room) (by ktr_units) ?hf9 ?_
      case hf9 =>
        intro q hq
        cases List.mem_singleton.mp hq
        exact ⟨_, List.Mem.tail _ (List.Mem.tail _ (List.Mem.head _))⟩
      intro v h14 tk14 F14 N14 K14 hP14
      rw [hdn2] at hP14
      obtain ⟨rfl, hP14⟩ := hP14
      simp only [Bool.false_eq_true, if_false] at hP14
      refine named (fun G9 hG9 => ?_)
      obtain ⟨g1, g2, g3, g4, u1, u2, u3, u4, ua, ux, uv, N15⟩ := stream_next (rest := []) N14 ⟨_, List.Mem.tail _ (List.Mem.tail _ (List.Mem.head _))⟩ (by simp) K14 hP14
      refine hG9 ?_
      clear hG9 G9
      clear N14
      k_steps
      refine hret _ _ _ (Kp.fr (by assumption)) ⟨_, rfl, ?_⟩
      simp only [List.length_nil] at hpp
      rw [show (a : Int) + (ws.length : Int) = p by omega]
      exact hP14
    | cons d r =>
      obtain ⟨r3, hr3, hw3⟩ := hW1.at hdp
      have hdp2 := WordsAre.next hdp
      obtain ⟨y, ry, rfl⟩ : ∃ y ry', ry = y :: ry' := by
        cases ry with
        | nil => simp at hrl
        | cons y ry => exact ⟨_, _, rfl⟩
      have hvy : d.val = .str y := by have := (List.cons.inj hvr).1; exact this
      have hke : d.kd ≠ Str.ofString "end" := by
        intro e
        have := hpl d (List.Mem.head _)
        unfold isPlainF isFreeF at this
        rw [e] at this
        exact absurd this (by simp only [Bool.and_eq_true, not_and]; intro h; exact absurd h.1 (by decide +kernel))
      refine tell_use (here_spec w _ x dx lw vs p r3 hi8 (by omega) (by omega) (by simpa using hr3)) (by assumption) (by assumption) (by assumption) (by assumption) (by assumption) (by rfl) (by ktr_room) (by ktr_units) ?_
      intro v h9 tk9 F9 N9 K9 hP9
      subst hP9
      have hww := hw3
      refine named (fun G9 hG9 => ?_)
      obtain ⟨wx, wd, g1, g2, g3, g4, u1, u2, u3, u4, ua, ub, wv, wp, rfl, f1, f2, hvv⟩ := hw3
      refine hG9 ?_
      clear hG9 G9
      have hwv := hvv.handed
      dsimp only [wordEs] at f2
      k_steps
      unfold Halt
      refine tell_use (is_plain_spec w _ _ d (hww.keeps F9.keep)) (by assumption) (by assumption) (by assumption) (by assumption) (by assumption) (by rfl) (by ktr_room) (by ktr_units) ?_
      intro v h10 tk10 F10 N10 K10 hP10
      rw [hpl d (List.Mem.head _)] at hP10
      subst hP10
      k_steps
      unfold Halt
      refine tell_useF (go_spec w _ x dx lw vs p (.ref wx) d (stream_end2 F10 e1 N10 (List.Mem.tail _ (List.Mem.head _)) e3) (by omega) (by omega) (by simpa using hr3) (hww.keeps F10.keep) hke) (by assumption) (by assumption) (by assumption) (by assumption) (by assumption) (by rfl) (by ktr_room) (by ktr_units) hfo ?_
      intro v h11 tk11 F11 N11 K11 hP11
      obtain ⟨rfl, hP11⟩ := hP11
      refine named (fun G9 hG9 => ?_)
      obtain ⟨g1, g2, g3, g4, u1, u2, u3, u4, ua, ux, uv, N12⟩ := stream_next N11 ⟨_, List.Mem.tail _ (List.Mem.head _)⟩ hoff K11 hP11
      refine hG9 ?_
      clear hG9 G9
      clear N11
      k_steps
      unfold Halt
      rw [hvy] at hvv
      obtain ⟨ty, rfl⟩ := hvv.strs
      rename Fr _ _ _ _ => F13
      rename News _ _ _ _ => N13
      rw [show (((p : Int) + 1)) = ((p + 1 : Nat) : Int) by omega] at N13
      refine WhileStep.intro (n' := r.length) F13 (news_sub N13 (news' := [(l6, listOf (its.push (.str y ty)) (kk + 1)), (dx, dictOf (streamEs g1 g2 g3 g4 u1 u2 u3 u4 ua ux uv lw (p + 1 : Nat)) 4)]) ?_) (by simp) ⟨r, ry, don ++ [y], p + 1, _, _, _, _, _, _, _, _, _, _, _, _, _, hdp2, (List.cons.inj hvr).2, ?_, ?_, ?_, ?_⟩
      · intro q hq
        rcases List.mem_cons.mp hq with rfl | hq
        · exact List.Mem.tail _ (List.Mem.head _)
        · cases List.mem_singleton.mp hq
          exact List.Mem.head _
      · rw [Array.toList_push]
        exact strs_snocB hst
      · rw [← hdon, List.append_assoc]; rfl
      · simp only [List.length_cons] at hpp; omega
      · exact fun d' hd' => hpl d' (List.Mem.tail _ hd')
end

theorem off_Bh : True := by w_top off; trivial
section
noncomputable def boundH : Obj := { cls := .type "builtin_function_or_method", data := .fields #[.builtin "bytes.fromhex", .type "bytes"] }
theorem type_fh : typeOf (.builtin "bytes.fromhex") = pure (.type "classmethod_descriptor") := by show builtinType _ = _; rw [builtinType_eq_fast]; kernel_rfl
theorem entry_fh : entryFor table "bytes.fromhex" = some Builtin.«bytes.fromhex» := entryFor_of_tree (by kernel_rfl)
theorem quiet_fh {as : Args} : (Code.builtin "bytes.fromhex" as).quiet = true := Code.quiet_builtin _ (by decide +kernel)
theorem isT_bytes : isType (.type "bytes") = pure true := by first | rfl | kernel_rfl | (unfold isType; rw [isSubtype_type]; kernel_rfl)
theorem sub_bytes : isSubtype (.type "bytes") (.type "bytes") = pure true := by first | rfl | kernel_rfl | (rw [isSubtype_type]; kernel_rfl)
theorem owner_fh : (kfb_private% "ownerAndName") "bytes.fromhex" = ("bytes", "fromhex") := by first | decide +kernel | kernel_rfl
section
variable {prog : Program} {w : World} {M : Model} {A : Around} {E : Value → Shared → Prop} {s : Shared} {K : Frag} {h₀ : Heap} {L : Addr} {m : PySem.Str → Option Value} {news : List (Addr × Obj)}
theorem run_getH {P : Fin → Shared → Prop} (h : P (.done (.ret (.ref s.heap.objs.size))) { s with heap := s.heap.push boundH }) :
    wpAny M A (Builtin.«classmethod_descriptor.__get__» ⟨[.builtin "bytes.fromhex", .none, .type "bytes"], []⟩) P E s := by
  unfold Builtin.«classmethod_descriptor.__get__»
  refine wpAny_bind (wpAny_of_eq (a := (.builtin "bytes.fromhex", none, some (.type "bytes"))) (by first | rfl | kernel_rfl) ?_)
  simp only [owner_fh]
  refine wpAny_bind (wpAny_of_eq (a := .type "bytes") rfl ?_)
  refine wpAny_bind (wpAny_of_eq (a := true) isT_bytes ?_)
  refine KFB.if_not rfl ?_
  refine wpAny_bind (wpAny_of_eq (a := true) sub_bytes ?_)
  refine KFB.if_not rfl ?_
  exact wpAny_bind (wpAny_newObj_type (wpAny_pure h))
theorem getmH {pl : Sem Bool} {Q : Value × List Value → Shared → Prop} (F : Fr h₀ L s.heap m) (N : News h₀ L s.heap news) (X₀ : K.In h₀)
    (e : findCls K (.type "bytes") (.type "type") (PySem.Str.ofString "fromhex") = some (.get (.builtin "classmethod_descriptor.__get__") (.builtin "bytes.fromhex") .none (.type "bytes")))
    (h : ∀ x h', Fr h₀ L h' m → News h₀ L h' ((x, boundH) :: news) → (∀ p ∈ news, p.1 < x) → Q (.ref x, []) { s with heap := h', toks := s.toks + 1 }) :
    wpAny (model prog w) A (getMethod (.type "bytes") (PySem.Str.ofString "fromhex") pl) Q E s := by
  have X := X₀.keeps F.keep
  have hstub : opaqueClassAbove (.type "bytes") = pure none := by unfold opaqueClassAbove; dsimp only; rw [show Manifest.isStub "bytes" = false by decide +kernel]; rfl
  have ht : typeOf (.type "bytes") = pure (.type "type") := by first | rfl | kernel_rfl
  have L0 : Looks (model prog w) s.heap (typeOf (.type "bytes")) (.type "type") := Looks.of_pure ht
  have hg : findIn K (.type "type") "__getattribute__" = some (some (.builtin "type.__getattribute__")) := type_tga
  unfold getMethod specialOf
  refine wpAny_bind (wpAny_bind (L0.here ((looks_findIn X hg).here ?_)))
  dsimp only
  rw [if_pos canon_tga]
  refine wpAny_bind (wpAny_mono (Q := fun v => Q (v, [])) (E := E) ?_ (fun _ _ z => wpAny_pure z) fun _ _ z => z)
  have LO : Looks (model prog w) s.heap (opaqueClassAbove (.type "bytes")) none := Looks.of_pure hstub
  refine cls_open X LO L0 hg (looks_hook X (r := none) (by rfl)) (by show subIn K _ _ = _; rfl) e ?_
  show wpAny _ _ (holding [.builtin "bytes.fromhex"] (call (.builtin "classmethod_descriptor.__get__") [.builtin "bytes.fromhex", .none, .type "bytes"]) >>= fun v => ret v) _ _ _
  refine wpAny_bind (wpAny_holding (wpAny_call_entry KFB.slot_get type_fh KFB.entry_get (run_getH ⟨_, rfl, wpAny_pure (wpAny_pure (h _ _ (F.push _) (News.push F N _) fun p hp => Heap.lt_size (N p hp).1))⟩) (KFB.args_get _ _ _)))
noncomputable def StandsH (u : Addr) (h : Heap) : Prop := h.get? u = some boundH
theorem callWith_H {pos : Pos} {u : Addr} {e : Expr} {env : Env} {rest : List Expr} {Q : Value → Shared → Prop}
    (h : wpAny M A (spliced (backTo pos (starEach (e :: rest) env))) (fun vs s₁ => StandsH u s₁.heap ∧ wpAny M A (call (.ref u) vs) Q E s₁) E s)
    (he : starEach (e :: rest) env = (false, eval e env) :: starEach rest env := by rfl) (hplain : (backTo pos (starEach rest env)).any (·.1) = false := by rfl) :
    wpAny M A (callWith pos (.ref u) [] (backTo pos (starEach (e :: rest) env)) []) Q E s := by
  rw [he] at h ⊢
  have hp2 : (backTo pos ((false, eval e env) :: starEach rest env)).any (·.1) = false := by show (false || (backTo pos (starEach rest env)).any (·.1)) = false; rw [hplain]; rfl
  unfold callWith
  have hx : wpAny M A (evalArgs (.ref u) true (backTo pos ((false, eval e env) :: starEach rest env)) []) (fun x s₁ => StandsH u s₁.heap ∧ wpAny M A (call (.ref u) ([] ++ x.pos) x.kw) Q E s₁) E s := evalArgs_plain h
  refine wpAny_bind (wpAny_holding (wpAny_mono hx (fun x s₁ h₁ => wpAny_bind (wpAny_standAt ?_)) fun _ _ x => x))
  obtain ⟨ho, hcall⟩ := h₁
  simp only [hp2, List.any_nil, Bool.or_false]
  refine wpAny_bind (m := keeperOf (.ref u)) ?_
  unfold keeperOf
  refine wpAny_bind (wpAny_load ho ?_)
  simp only [boundH, show (Value.type "builtin_function_or_method" != Value.type "method") = true by decide, show (Value.type "builtin_function_or_method" == Value.type "builtin_function_or_method" || Value.type "builtin_function_or_method" == Value.type "method-wrapper") = true by decide, if_true]
  refine wpAny_pure ?_
  exact wpAny_bind (wpAny_mono hcall (fun r s₂ hr => wpAny_bind (wpAny_holding (wpAny_point (wpAny_pure hr)))) fun _ _ x => x)
theorem fh0 {t : Tok} : Builtin.«bytes.fromhex» ⟨[.type "bytes", .str (Str.ofString "") t], []⟩ = (mkBytes #[] >>= fun v => ret v) := by kernel_rfl
theorem fh1 {t : Tok} : Builtin.«bytes.fromhex» ⟨[.type "bytes", .str (Str.ofString "00FF10") t], []⟩ = (mkBytes #[0, 255, 16] >>= fun v => ret v) := by kernel_rfl
theorem check_fh {t : Tok} {o : PySem.Str} : checkBoundCall "bytes.fromhex" ⟨[.type "bytes", .str o t], []⟩ = pure () := by first | kernel_rfl | rfl
theorem call_H {x : Addr} {o : PySem.Str} {t : Tok} {b : Array UInt8} {Q : Value → Shared → Prop} (ho : s.heap.get? x = some boundH)
    (tree : Builtin.«bytes.fromhex» ⟨[.type "bytes", .str o t], []⟩ = (mkBytes b >>= fun v => ret v))
    (hb : b.size ≤ sizeLine) (h : ∀ t' k, Q (.bytes b t') { s with toks := k }) : wpAny (model prog w) A (call (.ref x) [.str o t]) Q E s := by
  refine wpAny_call (codeAny_of_tree ?_)
  show wpAny _ A.in1 (callAny (.ref x) ⟨[.str o t], []⟩) _ _ s
  simp only [callAny]
  refine wpAny_bind (wpAny_load ho ?_)
  simp only [boundH, show (Value.type "builtin_function_or_method" == Value.type "method" || Value.type "builtin_function_or_method" == Value.type "builtin_function_or_method" || Value.type "builtin_function_or_method" == Value.type "method-wrapper") = true by decide, if_true]
  refine KFB.if_so (by decide) ?_
  refine wpAny_bind (wpAny_of_eq (a := ()) check_fh ?_)
  refine wpAny_bind (wpAny_pure (wpAny_pure ?_))
  refine ⟨quiet_fh, codeAny_builtin entry_fh ?_⟩
  show wpAny _ _ (Builtin.«bytes.fromhex» ⟨[.type "bytes", .str o t], []⟩) _ _ _
  rw [tree]
  refine wpAny_bind (wpAny_mkBytes ?_ hb)
  exact wpAny_pure (h _ _)
end
end

theorem off_C1 : True := by w_top off; trivial
local macro_rules | `(tactic| k_room) => `(tactic| ktr_room)
section
abbrev scanEs (h1 h2 h3 h4 : Int) (t1 t2 t3 t4 ta tb : Tok) (tx : Str) (p : Int) (l : Addr) (gv : Value) : List DictEntry :=
  [⟨h1, .str (Str.ofString "text") t1, .str tx ta⟩, ⟨h2, .str (Str.ofString "place") t2, .int p tb⟩, ⟨h3, .str (Str.ofString "found") t3, .ref l⟩, ⟨h4, .str (Str.ofString "greatest") t4, gv⟩]
inductive IsScan (h : Heap) (x dx l : Addr) (tx : Str) (p : Int) (its : Array Value) : Prop
  | mk (h1 h2 h3 h4 : Int) (t1 t2 t3 t4 ta tb : Tok) (gv : Value) (kk : Nat) (e1 : h.get? x = some (instObj 252 dx)) (e2 : h.get? dx = some (dictOf (scanEs h1 h2 h3 h4 t1 t2 t3 t4 ta tb tx p l gv) 4)) (e3 : h.get? l = some (listOf its kk)) : IsScan h x dx l tx p its
theorem IsScan.ne {h : Heap} {x dx l : Addr} {tx : Str} {p : Int} {its : Array Value} (i : IsScan h x dx l tx p its) : x ≠ dx ∧ l ≠ dx ∧ x ≠ l := by
  refine named (fun G9 hG9 => ?_)
  obtain ⟨h1, h2, h3, h4, t1, t2, t3, t4, ta, tb, gv, kk, e1, e2, e3⟩ := i
  refine hG9 ?_
  clear hG9 G9
  refine ⟨?_, ?_, ?_⟩
  · rintro rfl; rw [e1] at e2; have := congrArg Obj.cls (Option.some.inj e2); cases this
  · rintro rfl; rw [e3] at e2; exact absurd (congrArg Obj.cls (Option.some.inj e2)) (fun q => absurd (Value.type.inj q) (by decide))
  · rintro rfl; rw [e1] at e3; have := congrArg Obj.cls (Option.some.inj e3); cases this
/-- a word that did not stand in h -/
inductive NewWord (h h' : Heap) (r : Value) (d : Wd) : Prop
  | mk (x dx : Addr) (h1 h2 h3 h4 : Int) (t1 t2 t3 t4 ta tb : Tok) (v p : Value) (e : r = .ref x) (a : h'.get? x = some (instObj 147 dx)) (b : h'.get? dx = some (dictOf (wordEs h1 h2 h3 h4 t1 t2 t3 t4 ta tb d.kd d.tx v p) 4)) (c : VIs v d.val) (f1 : h.get? x = none) (f2 : h.get? dx = none) : NewWord h h' r d
inductive ScanLed (g : Heap) (L : Addr) (h' : Heap) (dx l : Addr) (tx : Str) (p : Int) (its : Array Value) (rest : List (Addr × Obj)) : Prop
  | mk (h1 h2 h3 h4 : Int) (t1 t2 t3 t4 ta tb : Tok) (gv : Value) (kk : Nat) (N : News g L h' ((dx, dictOf (scanEs h1 h2 h3 h4 t1 t2 t3 t4 ta tb tx p l gv) 4) :: (l, listOf its kk) :: rest)) : ScanLed g L h' dx l tx p its rest
theorem fresh_of {foot : List Addr} {h g : Heap} {x : Addr} (K : Keeps foot h g) (hn : x ∉ foot) (e : g.get? x = none) : h.get? x = none := by
  cases q : h.get? x with
  | none => rfl
  | some o => rw [K x o hn q] at e; cases e
theorem scan_end {g h : Heap} {L : Addr} {m : Str → Option Value} {x dx l : Addr} {tx : Str} {p : Int} {its : Array Value} {h1 h2 h3 h4 : Int} {t1 t2 t3 t4 ta tb : Tok} {gv : Value} {kk : Nat} {news : List (Addr × Obj)} (F : Fr g L h m) (e1 : g.get? x = some (instObj 252 dx))
    (N : News g L h news) (hm : (dx, dictOf (scanEs h1 h2 h3 h4 t1 t2 t3 t4 ta tb tx p l gv) 4) ∈ news) (hl : (l, listOf its kk) ∈ news) : IsScan h x dx l tx p its :=
  ⟨h1, h2, h3, h4, t1, t2, t3, t4, ta, tb, gv, kk, F.keep _ _ e1, N.get hm, N.get hl⟩
theorem gather_spec (w : World) (s : Shared) (x dx l : Addr) (tx : Str) (p : Int) (its : Array Value) (kd wtx : Str) (wv : Value) (val : Wv) (tk tw te : Tok) (e : Int) (hS : IsScan s.heap x dx l tx p its) (hv : VIs wv val) (hsz : its.size ≤ 1000) :
   Tell w 3 172 [.ref x, .str kd tk, .str wtx tw, wv, .int e te] [dx, l] s (fun r h' => r = .none ∧ ∃ v, IsScan h' x dx l tx e (its.push v) ∧ NewWord s.heap h' v ⟨kd, wtx, val⟩) := by
  have hne := hS.ne
  have hSS := hS
  have hwv := hv.handed
  refine named (fun G9 hG9 => ?_)
  obtain ⟨h1, h2, h3, h4, t1, t2, t3, t4, ta, tb, gv, kk, e1, e2, e3⟩ := hS
  refine hG9 ?_
  clear hG9 G9
  unfold Tell
  k_fill
  intro dp un gd cn cs fa ccd cl outer A₀ base h₀ L m mean mg mb news Q E B F X N T hk hf hd hu hret
  have N1 := news_foot N hf (List.Mem.head _) e2 (news_foot N hf (List.Mem.tail _ (List.Mem.head _)) e3 News.nil)
  refine wpAny_call ?_
  k_dflt (refine' enterM (binds := [(Str.ofString "self", .ref x), (Str.ofString "kind", .str kd tk), (Str.ofString "text", .str wtx tw), (Str.ofString "value", wv), (Str.ofString "end", .int e te)]) ?k1 ?k2 ?k3 ?k4 ?k5 ?kA ?kF ?kK ?k6 ?k7 ?k8 ?k9 ?kB ?_ ?c2 ?c3 ?c4 ?c5; (case kA => exact rfl); (case kF => exact rfl); (case kK => assumption); (case k1 => k_asm); (case k2 => k_asm); (case k3 => k_asm); (case k4 => exact N1); (case k5 => k_asm); (case k6 => k_is); (case k7 => k_is); (case k8 => ktr_room); (case k9 => exact BindsTo.of_eq rfl); (case c5 => decide); (case kB => exact locs rfl); (case c2 => exact rfl); (case c3 => exact rfl); (case c4 => exact rfl); k_whole)
  intro g L' h₁ tk₁ Kp F' N' B' X' T' l1
  (try k_lt l1)
  (try dsimp only)
  (try k_lift B')
  refine wpAny_gen (fun R0 hR0 => ?_)
  replace hret := fun r h' tk' k p => hR0 (.ok (.ret r)) _ (hret r h' tk' k p)
  clear hR0
  (try k_fold)

  have hnl : @Ne Nat l dx := hne.2.1
  replace e1 := Kp.at (by simpa using ⟨hne.1, hne.2.2⟩) e1
  dsimp only [scanEs] at N'
  k_steps
  rename Fr g L' _ _ => F9
  rename News g L' _ _ => N9
  have hx1 := (N9 _ (List.Mem.head _)).2.2
  have hx2 := (N9 _ (List.Mem.tail _ (List.Mem.head _))).2.2
  rename dx < _ ∧ l < _ => lt9
  rename _ < _ => lt8
  refine hret _ _ _ (Kp.fr F9) ⟨rfl, _, scan_end F9 e1 N9 (List.Mem.tail _ (List.Mem.tail _ (List.Mem.head _))) (List.Mem.tail _ (List.Mem.tail _ (List.Mem.tail _ (List.Mem.head _)))), ⟨_, _, _, _, _, _, _, _, _, _, _, _, _, _, rfl, News.get N9 (List.Mem.head _), News.get N9 (List.Mem.tail _ (List.Mem.head _)), hv, fresh_of Kp ?_ hx1, fresh_of Kp ?_ hx2⟩⟩
  all_goals (simp only [List.map_cons, List.map_nil, List.mem_cons, List.not_mem_nil, or_false, not_or]; refine ⟨Nat.ne_of_gt ?_, Nat.ne_of_gt ?_⟩ <;> omega)
theorem scan_next {g h h' : Heap} {L : Addr} {x dx l : Addr} {tx : Str} {p : Int} {its : Array Value} {rest news : List (Addr × Obj)} (N : News g L h news) (hm : ∃ o, (dx, o) ∈ news) (hm2 : ∃ o, (l, o) ∈ news) (hr : ∀ p ∈ rest, p ∈ news ∧ p.1 ≠ dx ∧ p.1 ≠ l) (K : Keeps [dx, l] h h') (i : IsScan h' x dx l tx p its) :
    ScanLed g L h' dx l tx p its rest := by
  refine named (fun G9 hG9 => ?_)
  obtain ⟨h1, h2, h3, h4, t1, t2, t3, t4, ta, tb, gv, kk, e1, e2, e3⟩ := i
  refine hG9 ?_
  clear hG9 G9
  obtain ⟨o, ho⟩ := hm
  obtain ⟨o2, ho2⟩ := hm2
  refine ⟨h1, h2, h3, h4, t1, t2, t3, t4, ta, tb, gv, kk, news_one N ho e2 (news_one N ho2 e3 fun p hp => ?_)⟩
  obtain ⟨q, q1, q2⟩ := hr p hp
  exact ⟨K _ _ (by simpa using ⟨q1, q2⟩) (N p q).1, (N p q).2⟩
theorem NewWord.back {foot : List Addr} {h h9 h' : Heap} {v : Value} {d : Wd} (K : Keeps foot h h9) (hn : ∀ a ∈ foot, ∃ o, h9.get? a = some o) (n : NewWord h9 h' v d) : NewWord h h' v d := by
  refine named (fun G9 hG9 => ?_)
  obtain ⟨x, dx, h1, h2, h3, h4, t1, t2, t3, t4, ta, tb, v', p, e, a, b, c, f1, f2⟩ := n
  refine hG9 ?_
  clear hG9 G9
  have key : ∀ y, h9.get? y = none → h.get? y = none := fun y hy => by
    cases q : h.get? y with
    | none => rfl
    | some o =>
      by_cases m : y ∈ foot
      · obtain ⟨o', e'⟩ := hn y m
        rw [hy] at e'; cases e'
      · rw [K y o m q] at hy; cases hy
  exact ⟨x, dx, h1, h2, h3, h4, t1, t2, t3, t4, ta, tb, v', p, e, a, b, c, key _ f1, key _ f2⟩
theorem NewWord.is {h h' : Heap} {v : Value} {d : Wd} (n : NewWord h h' v d) : IsWord h' v d := by
  refine named (fun G9 hG9 => ?_)
  obtain ⟨x, dx, h1, h2, h3, h4, t1, t2, t3, t4, ta, tb, v', p, e, a, b, c, f1, f2⟩ := n
  refine hG9 ?_
  clear hG9 G9
  exact ⟨x, dx, h1, h2, h3, h4, t1, t2, t3, t4, ta, tb, v', p, e, a, b, c⟩
theorem in2 {dx l : Addr} {od ol : Obj} {rest : List (Addr × Obj)} : ∀ q ∈ [dx, l], ∃ o, (q, o) ∈ (dx, od) :: (l, ol) :: rest := by
  intro q hq
  rcases List.mem_cons.mp hq with rfl | hq
  · exact ⟨_, List.Mem.head _⟩
  · cases List.mem_singleton.mp hq
    exact ⟨_, List.Mem.tail _ (List.Mem.head _)⟩
theorem in3 {dx l : Addr} {od ol : Obj} {y : Addr × Obj} {rest : List (Addr × Obj)} : ∀ q ∈ [dx, l], ∃ o, (q, o) ∈ y :: (dx, od) :: (l, ol) :: rest := by
  intro q hq
  obtain ⟨o, ho⟩ := in2 (od := od) (ol := ol) (rest := rest) q hq
  exact ⟨o, List.Mem.tail _ ho⟩
theorem in2h {g h : Heap} {L dx l : Addr} {od ol : Obj} {rest : List (Addr × Obj)} (N : News g L h ((dx, od) :: (l, ol) :: rest)) : ∀ q ∈ [dx, l], ∃ o, h.get? q = some o := by
  intro q hq
  obtain ⟨o, ho⟩ := in2 (od := od) (ol := ol) (rest := rest) q hq
  exact ⟨o, (N _ ho).1⟩
end

theorem off_C2 : True := by w_top off; trivial
section
local macro_rules | `(tactic| walk_at "call ref") => `(tactic| (k_here; first | with_reducible refine halt_at 172 ?_ | with_reducible refine halt_at 221 ?_ | with_reducible refine halt_at 81 ?_))
local macro_rules | `(tactic| walk_at "exec While") => `(tactic| (refine halt ?_))
local macro_rules | `(tactic| walk_at "WhileStep") => `(tactic| (refine halt ?_))
local macro_rules | `(tactic| walk_at "call builtin:ord") => `(tactic| (k_here; (with_reducible show wpAny _ _ (call (Value.builtin "ord") [Value.str _ _]) _ _ _); refine ord_of_one (by omega) ?_))
inductive JEnd (x : Addr) (tx sg : Str) (ta tsg : Tok) (e : Nat) : Nat → (Str → Option Value) → List (Addr × Obj) → Prop
  | mk (q : Nat) (tq : Tok) (m : Str → Option Value) (hm : m = (fun y => if y = Str.ofString "end" then some (.int q tq) else if y = Str.ofString "text" then some (Value.str tx ta) else List.lookup y [(Str.ofString "self", Value.ref x), (Str.ofString "signs", Value.str sg tsg)])) (hq : q ≤ tx.length)
    (hJ : q + ((tx.cps.toList.drop q).takeWhile (fun c => decide (c ∈ sg.cps.toList))).length = e + ((tx.cps.toList.drop e).takeWhile (fun c => decide (c ∈ sg.cps.toList))).length) : JEnd x tx sg ta tsg e (tx.length - q) m []
theorem end_of_spec (w : World) (s : Shared) (x dx l : Addr) (tx sg : Str) (p : Int) (its : Array Value) (tsg te : Tok) (e : Nat) (hS : IsScan s.heap x dx l tx p its) (hl : tx.length ≤ 5000) (he : e ≤ tx.length) :
   Tell w 1 193 [.ref x, .str sg tsg, .int e te] [] s (fun r h' => ∃ t, r = .int (e + ((tx.cps.toList.drop e).takeWhile (fun c => decide (c ∈ sg.cps.toList))).length : Nat) t) := by
  refine named (fun G9 hG9 => ?_)
  obtain ⟨h1, h2, h3, h4, t1, t2, t3, t4, ta, tb, gv, kk, e1, e2, e3⟩ := hS
  refine hG9 ?_
  clear hG9 G9
  unfold Tell
  k_fill
  intro dp un gd cn cs fa ccd cl outer A₀ base h₀ L m mean mg mb news Q E B F X N T hk hf hd hu hret
  have N1 : News h₀ L s.heap [] := News.nil
  refine wpAny_call ?_
  k_dflt (refine' enterM (binds := [(Str.ofString "self", .ref x), (Str.ofString "signs", .str sg tsg), (Str.ofString "end", .int e te)]) ?k1 ?k2 ?k3 ?k4 ?k5 ?kA ?kF ?kK ?k6 ?k7 ?k8 ?k9 ?kB ?_ ?c2 ?c3 ?c4 ?c5; (case kA => exact rfl); (case kF => exact rfl); (case kK => assumption); (case k1 => k_asm); (case k2 => k_asm); (case k3 => k_asm); (case k4 => exact N1); (case k5 => k_asm); (case k6 => k_is); (case k7 => k_is); (case k8 => ktr_room); (case k9 => exact BindsTo.of_eq rfl); (case c5 => decide); (case kB => exact locs rfl); (case c2 => exact rfl); (case c3 => exact rfl); (case c4 => exact rfl); k_whole)
  intro g L' h₁ tk₁ Kp F' N' B' X' T' l1
  (try k_lt l1)
  (try dsimp only)
  (try k_lift B')
  refine wpAny_gen (fun R0 hR0 => ?_)
  replace hret := fun r h' tk' k p => hR0 (.ok (.ret r)) _ (hret r h' tk' k p)
  clear hR0
  (try k_fold)

  replace e1 := Kp.get e1
  replace e2 := Kp.get e2
  replace e3 := Kp.get e3
  dsimp only [scanEs] at e2
  k_steps
  rename Fr g L' _ _ => F2
  unfold Halt
  refine While_inv (h₀ := g) (L := L') (n₀ := tx.length - e) (JEnd x tx sg ta tsg e) F2 News.nil ?_ ?_
  · refine ⟨e, te, _, ?_, he, rfl⟩
    funext y
    by_cases h1 : y = Str.ofString "end"
    · subst h1; rfl
    · simp only [List.reverse_cons, List.reverse_nil, List.nil_append, List.cons_append, lk_cons, h1, if_false]
      by_cases h2 : y = Str.ofString "text"
      · simp only [h2, if_true]
      · simp only [h2, if_false]
        by_cases h3 : y = Str.ofString "self"
        · subst h3; rfl
        · simp only [h3, if_false]
  · intro k m₁ news₁ h₁' tk₁' F8 N8 hJ
    refine named (fun G9 hG9 => ?_)
    obtain ⟨q, tq, _, rfl, hq, hJ⟩ := hJ
    refine hG9 ?_
    clear hG9 G9
    k_steps
    · refine hret _ _ _ (Kp.fr F8) ⟨tq, ?_⟩
      obtain ⟨c, hc⟩ := at_lt (x := tx) (q := q) (by omega)
      rename _ = true => ho
      rw [item_nat hc, occ1] at ho
      rw [tw_stop hc (by simpa using ho)] at hJ
      rw [← hJ, Nat.add_zero]
    · unfold Halt
      obtain ⟨c, hc⟩ := at_lt (x := tx) (q := q) (by omega)
      rename _ = false => ho
      rw [item_nat hc, occ1] at ho
      rw [tw_go hc (by simpa using ho)] at hJ
      rename Fr g L' _ _ => F9
      rename News g L' _ _ => N9
      refine WhileStep.intro (n' := tx.length - (q + 1)) F9 N9 (by omega) ⟨q + 1, _, _, upd_int, by omega, by omega⟩
    · refine hret _ _ _ (Kp.fr F8) ⟨tq, ?_⟩
      rw [tw_end (by omega)] at hJ
      rw [← hJ, Nat.add_zero]
theorem goes_in {x : Str} {q c : Nat} (hc : x.cps[q]? = some c) (ho : (Builtin.Str.occurrences (Str.ofString "abcdefghijklmnopqrstuvwxyzABCDEFGHIJKLMNOPQRSTUVWXYZ_0123456789$") (Txt.item x (q : Int)) 0 (Str.ofString "abcdefghijklmnopqrstuvwxyzABCDEFGHIJKLMNOPQRSTUVWXYZ_0123456789$").length 1).isEmpty = false) : goesC c = true := by
  rw [item_nat hc, occ1] at ho
  unfold goesC nameSigns
  have h2 : decide (c ∈ (Str.ofString "abcdefghijklmnopqrstuvwxyzABCDEFGHIJKLMNOPQRSTUVWXYZ_0123456789$").cps.toList) = true := by simpa using ho
  rw [h2, Bool.true_or]
theorem goes_gt {x : Str} {q c : Nat} (hc : x.cps[q]? = some c) (h7 : (127 : Int) < (((Txt.item x (q : Int)).cps.getD 0 0 : Nat) : Int)) : goesC c = true := by
  rw [item_nat hc] at h7
  have h8 : 127 < c := by
    have : (127 : Int) < (c : Int) := by simpa using h7
    omega
  unfold goesC
  rw [decide_eq_true h8, Bool.or_true]
theorem goes_no {x : Str} {q c : Nat} (hc : x.cps[q]? = some c) (ho : (Builtin.Str.occurrences (Str.ofString "abcdefghijklmnopqrstuvwxyzABCDEFGHIJKLMNOPQRSTUVWXYZ_0123456789$") (Txt.item x (q : Int)) 0 (Str.ofString "abcdefghijklmnopqrstuvwxyzABCDEFGHIJKLMNOPQRSTUVWXYZ_0123456789$").length 1).isEmpty = true) (h7 : ¬ (127 : Int) < (((Txt.item x (q : Int)).cps.getD 0 0 : Nat) : Int)) : goesC c = false := by
  rw [item_nat hc] at h7 ho
  rw [occ1] at ho
  have h8 : ¬ 127 < c := by
    have : ¬ (127 : Int) < (c : Int) := by simpa using h7
    omega
  unfold goesC nameSigns
  rw [decide_eq_false h8, Bool.or_false]
  simpa using ho
inductive JBare (x dx l : Addr) (h1 h2 h3 h4 : Int) (t1 t2 t3 t4 ta tb t : Tok) (gv : Value) (kk : Nat) (its : Array Value) (c p : Nat) (tx : Str) : Nat → (Str → Option Value) → List (Addr × Obj) → Prop
  | mk (q : Nat) (tq : Tok) (m : Str → Option Value) (hm : m = (fun y => if y = Str.ofString "end" then some (.int q tq) else if y = Str.ofString "text" then some (Value.str tx ta) else List.lookup y [(Str.ofString "self", Value.ref x), (Str.ofString "sign", Value.str ⟨#[c]⟩ t)].reverse)) (hq : q ≤ tx.length)
    (hJ : q + ((tx.cps.toList.drop q).takeWhile goesC).length = p + 1 + ((tx.cps.toList.drop (p + 1)).takeWhile goesC).length) : JBare x dx l h1 h2 h3 h4 t1 t2 t3 t4 ta tb t gv kk its c p tx (tx.length - q) m [(dx, dictOf (scanEs h1 h2 h3 h4 t1 t2 t3 t4 ta tb tx p l gv) 4), (l, listOf its kk)]
theorem bare_spec (w : World) (s : Shared) (x dx l : Addr) (tx : Str) (p : Nat) (its : Array Value) (c : Nat) (t : Tok) (hS : IsScan s.heap x dx l tx p its) (hsz : its.size ≤ 1000) (hl : tx.length ≤ 5000) (hc : tx.cps[p]? = some c)
    (hnb : c = 120 ∨ c = 88 → tx.cps[p + 1]? ≠ some 39) (wr : Str) (hwr : wr = ⟨(c :: (tx.cps.toList.drop (p + 1)).takeWhile goesC).toArray⟩) (hwl : wr.length ≤ 1000) :
   Tell w 5 200 [.ref x, .str ⟨#[c]⟩ t] [dx, l] s (fun r h' => r = .none ∧ ∃ v, IsScan h' x dx l tx (p + wr.length : Nat) (its.push v) ∧ NewWord s.heap h' v ⟨Str.ofString "name", foldedF wr, .str wr⟩) := by
  have hne := hS.ne
  have hSS := hS
  refine named (fun G9 hG9 => ?_)
  obtain ⟨h1, h2, h3, h4, t1, t2, t3, t4, ta, tb, gv, kk, e1, e2, e3⟩ := hS
  refine hG9 ?_
  clear hG9 G9
  unfold Tell
  k_fill
  intro dp un gd cn cs fa ccd cl outer A₀ base h₀ L m mean mg mb news Q E B F X N T hk hf hd hu hret
  have N1 := news_foot N hf (List.Mem.head _) e2 (news_foot N hf (List.Mem.tail _ (List.Mem.head _)) e3 News.nil)
  refine wpAny_call ?_
  k_dflt (refine' enterM (binds := [(Str.ofString "self", .ref x), (Str.ofString "sign", .str ⟨#[c]⟩ t)]) ?k1 ?k2 ?k3 ?k4 ?k5 ?kA ?kF ?kK ?k6 ?k7 ?k8 ?k9 ?kB ?_ ?c2 ?c3 ?c4 ?c5; (case kA => exact rfl); (case kF => exact rfl); (case kK => assumption); (case k1 => k_asm); (case k2 => k_asm); (case k3 => k_asm); (case k4 => exact N1); (case k5 => k_asm); (case k6 => k_is); (case k7 => k_is); (case k8 => ktr_room); (case k9 => exact BindsTo.of_eq rfl); (case c5 => decide); (case kB => exact locs rfl); (case c2 => exact rfl); (case c3 => exact rfl); (case c4 => exact rfl); k_whole)
  intro g L' h₁ tk₁ Kp F' N' B' X' T' l1
  (try k_lt l1)
  (try dsimp only)
  (try k_lift B')
  refine wpAny_gen (fun R0 hR0 => ?_)
  replace hret := fun r h' tk' k p => hR0 (.ok (.ret r)) _ (hret r h' tk' k p)
  clear hR0
  (try k_fold)

  have hnl : @Ne Nat l dx := hne.2.1
  replace e1 := Kp.at (by simpa using ⟨hne.1, hne.2.2⟩) e1
  dsimp only [scanEs] at N'
  have hl1 : (⟨#[c]⟩ : Str).length = 1 := rfl
  have hplt : p < tx.length := (Array.getElem?_eq_some_iff.mp hc).1
  k_steps
  rotate_left
  · exfalso
    rename (Txt.slice _ _ _ == _) = true => hq
    rename _ = false => hx
    have hx2 : (Builtin.Str.occurrences (Str.ofString "xX") ⟨#[c]⟩ 0 (Str.ofString "xX").length 1).isEmpty = false := by assumption
    rw [occ1] at hx2
    have hc2 : c = 120 ∨ c = 88 := by
      have e : (Str.ofString "xX").cps.toList = [120, 88] := by decide +kernel
      rw [e] at hx2
      by_cases h1 : c = 120
      · exact .inl h1
      · exact .inr (by simpa [h1] using hx2)
    have e39 : Str.ofString "'" = ⟨#[39]⟩ := by decide +kernel
    rw [e39] at hq
    by_cases hlt : p + 1 < tx.length
    · obtain ⟨c', hc'⟩ := at_lt hlt
      have e := slice_one hc'
      rw [show ((p + 1 : Nat) : Int) = (p : Int) + 1 by omega] at e
      rw [e] at hq
      have : c' = 39 := by simpa using hq
      exact hnb hc2 (by rw [hc', this])
    · have e := slice_end (x := tx) (q := p + 1) (by omega)
      rw [show ((p + 1 : Nat) : Int) = (p : Int) + 1 by omega] at e
      rw [e] at hq
      exact absurd hq (by decide)
  all_goals
    unfold Halt
    rename Fr g L' _ _ => F2
    rename News g L' _ _ => N2
    rw [show ((p : Int) + 1) = ((p + 1 : Nat) : Int) by omega] at F2
    refine While_inv (h₀ := g) (L := L') (n₀ := tx.length - (p + 1)) (JBare x dx l h1 h2 h3 h4 t1 t2 t3 t4 ta tb t gv kk its c p tx) F2 N2 ⟨p + 1, _, _, rfl, by omega, rfl⟩ ?_
    intro k m₁ news₁ h₁' tk₁' F8 N8 hJ
    refine named (fun G9 hG9 => ?_)
    obtain ⟨q, tq, _, rfl, hq, hJ⟩ := hJ
    refine hG9 ?_
    clear hG9 G9
    k_steps
  all_goals unfold Halt
  all_goals
    first
    | (obtain ⟨c2, hc2⟩ := at_lt (x := tx) (q := q) (by omega)
       have hg : goesC c2 = true := by first | exact goes_in hc2 (by assumption) | exact goes_gt hc2 (by assumption)
       rw [tw_go hc2 hg] at hJ
       rename Fr g L' _ _ => F9
       rename News g L' _ _ => N9
       exact WhileStep.intro (n' := tx.length - (q + 1)) F9 N9 (by omega) ⟨q + 1, _, _, upd_int, by omega, by omega⟩)
    | (have hz : ((tx.cps.toList.drop q).takeWhile goesC).length = 0 := by
         first
         | exact tw_end (by omega)
         | (obtain ⟨c2, hc2⟩ := at_lt (x := tx) (q := q) (by omega)
            exact tw_stop hc2 (goes_no hc2 (by assumption) (by assumption)))
       have hwl2 : wr.length = 1 + ((tx.cps.toList.drop (p + 1)).takeWhile goesC).length := by
         rw [hwr]; simp [Str.length]; omega
       have hqq : q = p + wr.length := by omega
       have hsl : Txt.slice tx (some (p : Int)) (some (q : Int)) = wr := by
         rw [slice_nat tx p q (by omega), hwr, drop_at hc, show q - p = 1 + ((tx.cps.toList.drop (p + 1)).takeWhile goesC).length by omega, Nat.add_comm 1, List.take_succ_cons]
         congr 3
         exact (List.prefix_iff_eq_take.mp (List.takeWhile_prefix goesC)).symm
       rename Fr g L' _ _ => F8b
       rw [hsl] at F8b ⊢
       refine tell_use (folded_spec w _ wr _ hwl) (by assumption) (by assumption) (by assumption) (by assumption) (by assumption) (by rfl) (by ktr_room) (by ktr_units) ?_
       intro v h9 tk9 F9 N9 K9 hP9
       obtain ⟨t9, rfl⟩ := hP9
       k_steps
       unfold Halt
       refine tell_useF (gather_spec w _ x dx l tx p its (Str.ofString "name") (foldedF wr) (.str wr _) (.str wr) _ _ _ q (scan_end F9 e1 N9 (List.Mem.head _) (List.Mem.tail _ (List.Mem.head _))) (VIs.str _ _) hsz) (by assumption) (by assumption) (by assumption) (by assumption) (by assumption) (by rfl) (by ktr_room) (by ktr_units) in2 ?_
       intro v h10 tk10 F10 N10 K10 hP10
       refine named (fun G9 hG9 => ?_)
       obtain ⟨rfl, v, hi10, hn10⟩ := hP10
       refine hG9 ?_
       clear hG9 G9
       refine named (fun G9 hG9 => ?_)
       obtain ⟨g1, g2, g3, g4, u1, u2, u3, u4, ua, ub, ug, uk, N11⟩ := scan_next (rest := []) N10 ⟨_, List.Mem.head _⟩ ⟨_, List.Mem.tail _ (List.Mem.head _)⟩ (by simp) K10 hi10
       refine hG9 ?_
       clear hG9 G9
       clear N10
       k_steps
       exact hret _ _ _ (Kp.fr F10) ⟨rfl, v, hqq ▸ hi10, NewWord.back (Kp.fr F9) (in2h N9) hn10⟩)
end

theorem off_C3 : True := by w_top off; trivial
section
local macro_rules | `(tactic| walk_at "exec While") => `(tactic| (refine halt ?_))
local macro_rules | `(tactic| walk_at "WhileStep") => `(tactic| (refine halt ?_))
local macro_rules | `(tactic| walk_at "call builtin:ord") => `(tactic| (k_here; (with_reducible show wpAny _ _ (call (Value.builtin "ord") [Value.str _ _]) _ _ _); refine ord_of_one (by omega) ?_))
local macro_rules | `(tactic| walk_at "eval Name") => `(tactic| (k_here; k_dflt (refine' ld ?k1 ?k2 ?_; (case k1 => k_asm); (case k2 => assumption); k_whole)))
local macro_rules | `(tactic| walk_at "call builtin:str.join") => `(tactic| (refine halt ?_))
theorem strs_len : ∀ {vs : List Value} {ys : List Str}, StrsAre vs ys → vs.length = ys.length
  | _, _, .nil => rfl
  | _, _, .cons _ _ h => by simp [strs_len h]
theorem strs_snoc {us : List Value} {ws : List Str} {x : Str} {t : Tok} (h : StrsAre us ws) : StrsAre (us ++ [.str x t]) (ws ++ [x]) := by
  induction h with
  | nil => exact .cons _ _ .nil
  | cons y u h ih => exact .cons _ _ ih
theorem WordsAre.next2 {tx : Str} {p : Nat} {rest r : List Nat} {c : Nat} (e : tx.cps.toList.drop p = rest) (e2 : rest = c :: r) : tx.cps.toList.drop (p + 1) = r := by
  rw [← List.drop_drop, e, e2]; rfl
inductive JClos (x l6 : Addr) (tx : Str) (q b : Nat) (tq : Tok) (body tail : List Nat) : Nat → (Str → Option Value) → List (Addr × Obj) → Prop
  | mk (b2 : Nat) (bd pre rest : List Nat) (is : Array Value) (kn : Nat) (ys : List Str) (te tc : Tok) (m : Str → Option Value) (f0 : m (Str.ofString "self") = some (.ref x)) (f1 : m (Str.ofString "quote") = some (.str ⟨#[q]⟩ tq)) (f2 : m (Str.ofString "parts") = some (.ref l6)) (f3 : m (Str.ofString "begin") = some (.int b2 tc)) (f4 : m (Str.ofString "end") = some (.int (b2 + pre.length : Nat) te)) (f5 : tx.cps.toList.drop b2 = pre ++ q :: rest) (f6 : StrsAre is.toList ys) (f7 : (ys.map (·.cps.toList)).flatten ++ bd = body) (f8 : ys.length + bd.length ≤ body.length) (f9 : b2 + (StrLaws.dbl q bd).length = b + (StrLaws.dbl q body).length) (f10 : (pre = bd ∧ rest = tail ∧ StrLaws.dbl q bd = bd) ∨ ∃ b3, bd = pre ++ q :: b3 ∧ rest = q :: (StrLaws.dbl q b3 ++ q :: tail) ∧ StrLaws.dbl q bd = pre ++ q :: q :: StrLaws.dbl q b3) : JClos x l6 tx q b tq body tail bd.length m [(l6, listOf is kn)]
theorem closing_spec (w : World) (s : Shared) (x dx l : Addr) (tx : Str) (p : Int) (its : Array Value) (q b : Nat) (tq tb' : Tok) (body tail : List Nat) (hS : IsScan s.heap x dx l tx p its) (hl : tx.length ≤ 5000) 
    (hdd : tx.cps.toList.drop b = StrLaws.dbl q body ++ q :: tail) (ht : tail.head? ≠ some q) :
   Tell w 2 207 [.ref x, .str ⟨#[q]⟩ tq, .int b tb'] [] s (fun r h' => ∃ a t t' n, r = .ref a ∧ h'.get? a = some { cls := .type "tuple", data := .seq #[.str ⟨body.toArray⟩ t, .int (b + (StrLaws.dbl q body).length + 1 : Nat) t'] n } ∧ s.heap.get? a = none) := by
  have hne := hS.ne
  have hSS := hS
  refine named (fun G9 hG9 => ?_)
  obtain ⟨h1, h2, h3, h4, t1, t2, t3, t4, ta, tb, gv, kk, e1, e2, e3⟩ := hS
  refine hG9 ?_
  clear hG9 G9
  unfold Tell
  k_fill
  intro dp un gd cn cs fa ccd cl outer A₀ base h₀ L m mean mg mb news Q E B F X N T hk hf hd hu hret
  have N1 : News h₀ L s.heap [] := News.nil
  refine wpAny_call ?_
  k_dflt (refine' enterM (binds := [(Str.ofString "self", .ref x), (Str.ofString "quote", .str ⟨#[q]⟩ tq), (Str.ofString "begin", .int b tb')]) ?k1 ?k2 ?k3 ?k4 ?k5 ?kA ?kF ?kK ?k6 ?k7 ?k8 ?k9 ?kB ?_ ?c2 ?c3 ?c4 ?c5; (case kA => exact rfl); (case kF => exact rfl); (case kK => assumption); (case k1 => k_asm); (case k2 => k_asm); (case k3 => k_asm); (case k4 => exact N1); (case k5 => k_asm); (case k6 => k_is); (case k7 => k_is); (case k8 => ktr_room); (case k9 => exact BindsTo.of_eq rfl); (case c5 => decide); (case kB => exact locs rfl); (case c2 => exact rfl); (case c3 => exact rfl); (case c4 => exact rfl); k_whole)
  intro g L' h₁ tk₁ Kp F' N' B' X' T' l1
  (try k_lt l1)
  (try dsimp only)
  (try k_lift B')
  refine wpAny_gen (fun R0 hR0 => ?_)
  replace hret := fun r h' tk' k p => hR0 (.ok (.ret r)) _ (hret r h' tk' k p)
  clear hR0
  (try k_fold)

  replace e1 := Kp.get e1
  replace e2 := Kp.get e2
  replace e3 := Kp.get e3
  dsimp only [scanEs] at e2
  have hl1 : (⟨#[q]⟩ : Str).length = 1 := rfl
  k_steps
  unfold Halt
  rename_i l6 hA lA h6 tkA h7 F7 N7
  rename Fr g L' _ _ => F2
  rename News g L' _ _ => N2
  refine named (fun G9 hG9 => ?_)
  obtain ⟨pre0, rest0, hp0, hd0, hc0⟩ := dbl_head q body tail
  refine hG9 ?_
  clear hG9 G9
  rw [hd0] at hdd
  have hlen0 := len_of_drop hdd (by simp)
  have hbl : (StrLaws.dbl q body).length + 1 + tail.length = pre0.length + 1 + rest0.length := by
    have := congrArg List.length hd0
    simp only [List.length_append, List.length_cons] at this
    omega
  simp only [List.length_append, List.length_cons] at hlen0
  have hbod : body.length ≤ 5000 := by
    have : body.length ≤ (StrLaws.dbl q body).length := by
      have key : ∀ l : List Nat, l.length ≤ (StrLaws.dbl q l).length := by
        intro l
        induction l with
        | nil => simp [StrLaws.dbl]
        | cons k r ih => unfold StrLaws.dbl; split <;> simp <;> omega
      exact key body
    omega
  have ef := find3_at hdd hp0
  rw [ef] at F2
  refine While_inv (h₀ := g) (L := L') (n₀ := body.length) (JClos x l6 tx q b tq body tail) F2 N2 ?_ ?_
  · exact ⟨b, body, pre0, rest0, _, _, [], _, _, _, rfl, rfl, rfl, rfl, rfl, hdd, StrsAre.nil, rfl, by simp, rfl, hc0⟩
  · intro k m₁ news₁ h₁' tk₁' F8 N8 hJ
    refine named (fun G9 hG9 => ?_)
    obtain ⟨b2, bd, pre, rest, is, kn, ys, te, tc, _, hm1, hm2, hm3, hm4, hm5, hdr, hst, hfl, hyl, hbb, hcs⟩ := hJ
    refine hG9 ?_
    clear hG9 G9
    have hisz : is.size ≤ 6000 := by
      have h1 := strs_len hst
      simp at h1
      omega
    have hlen := len_of_drop hdr (by simp)
    simp only [List.length_append, List.length_cons] at hlen
    have hdr2 : tx.cps.toList.drop (b2 + pre.length + 1) = rest := by
      have := drop_more (pre := pre ++ [q]) (rest := rest) (x := tx) (b := b2) (by rw [hdr]; simp)
      simpa [Nat.add_assoc] using this
    have hsl : Txt.slice tx (some (((b2 + pre.length : Nat) : Int) + 1)) (some (((b2 + pre.length : Nat) : Int) + 2)) = ⟨(rest.take 1).toArray⟩ := by
      have := slice_nat tx (b2 + pre.length + 1) (b2 + pre.length + 2) (by omega)
      rw [show ((b2 + pre.length + 1 : Nat) : Int) = ((b2 + pre.length : Nat) : Int) + 1 by omega, show ((b2 + pre.length + 2 : Nat) : Int) = ((b2 + pre.length : Nat) : Int) + 2 by omega] at this
      rw [this, hdr2, show b2 + pre.length + 2 - (b2 + pre.length + 1) = 1 by omega]
    k_steps
    · unfold Halt
      rename (Txt.slice _ _ _ == _) = true => hq
      rw [hsl] at hq
      rcases hcs with ⟨_, rfl, _⟩ | ⟨b3, hb3, hrest, hdb⟩
      · exfalso
        cases rest with
        | nil => simp at hq
        | cons c r =>
          have : c = q := by simpa using hq
          exact ht (by rw [this]; rfl)
      · have hdr3 : tx.cps.toList.drop (b2 + pre.length + 2) = StrLaws.dbl q b3 ++ q :: tail := by
          have := WordsAre.next2 hdr2 hrest
          simpa [Nat.add_assoc] using this
        refine named (fun G9 hG9 => ?_)
        obtain ⟨pre', rest', hp', hd', hc'⟩ := dbl_head q b3 tail
        refine hG9 ?_
        clear hG9 G9
        have hdr4 := hdr3
        rw [hd'] at hdr4
        rename Fr g L' _ _ => F9
        rename News g L' _ _ => N9
        have hs9 : Txt.slice tx (some (b2 : Int)) (some (((b2 + pre.length : Nat) : Int) + 1)) = ⟨(pre ++ [q]).toArray⟩ := by
          have := slice_drop (x := tx) (b := b2) (n := b2 + pre.length + 1) (pre := pre ++ [q]) (rest := rest) (by rw [hdr]; simp) (by simp; omega)
          rw [← this, show ((b2 + pre.length + 1 : Nat) : Int) = ((b2 + pre.length : Nat) : Int) + 1 by omega]
        rw [show ((b2 + pre.length : Nat) : Int) + 2 = ((b2 + pre.length + 2 : Nat) : Int) by omega, find3_at hdr4 hp'] at F9
        rw [hs9] at N9
        refine WhileStep.intro (n' := b3.length) F9 N9 (by rw [hb3]; simp; omega) ⟨b2 + pre.length + 2, b3, pre', rest', _, _, ys ++ [⟨(pre ++ [q]).toArray⟩], _, _, _, hm1, hm2, hm3, rfl, rfl, hdr4, ?_, ?_, ?_, ?_, hc'⟩
        · rw [Array.toList_push]; exact strs_snoc hst
        · rw [← hfl, hb3]; simp
        · rw [hb3] at hyl
          simp only [List.length_append, List.length_cons, List.length_nil] at hyl ⊢
          omega
        · rw [← hbb, hdb]
          simp only [List.length_append, List.length_cons]
          omega
    · unfold Halt
      rename (Txt.slice _ _ _ == _) = false => hq
      rw [hsl] at hq
      rcases hcs with ⟨hpb, hrt, hdb⟩ | ⟨b3, hb3, hrest, hdb⟩
      · have hs9 : Txt.slice tx (some (b2 : Int)) (some ((b2 + pre.length : Nat) : Int)) = ⟨pre.toArray⟩ := slice_drop hdr rfl
        rename Fr g L' _ _ => F9
        rename News g L' _ _ => N9
        rw [hs9] at N9
        have hfl2 : ((ys ++ [(⟨pre.toArray⟩ : Str)]).map (·.cps.toList)).flatten = body := by rw [← hfl, hpb]; simp
        refine join_list (ys := ys ++ [⟨pre.toArray⟩]) (isList_of (News.get N9 (List.Mem.head _))) (by rw [Array.toList_push]; exact strs_snoc hst) ?_ ?_
        · rw [sum_flat, hfl2]
          have : (Str.ofString "").length = 0 := by decide +kernel
          rw [this]; omega
        intro tj kj
        have hj : Txt.join (Str.ofString "") (ys ++ [⟨pre.toArray⟩]) = ⟨body.toArray⟩ := by
          refine PySem.Str.ext' (Array.toList_inj.mp ?_)
          rw [join_nil, hfl2]
        rw [hj]
        k_steps
        rename News g L' _ _ => N10
        rename Fr g L' _ _ => F10
        have hz := News.get N10 (List.Mem.head _)
        rw [show ((b2 + pre.length : Nat) : Int) + 1 = ((b + (StrLaws.dbl q body).length + 1 : Nat) : Int) by rw [hpb, ← hbb, hdb]; omega] at hz
        exact hret _ _ _ (Kp.fr F10) ⟨_, _, _, _, rfl, hz, fresh_of Kp (by simp) (N10 _ (List.Mem.head _)).2.2⟩
      · exfalso
        rw [hrest] at hq
        simp at hq
end

theorem off_C4 : True := by w_top off; trivial
section
local macro_rules | `(tactic| walk_at "call ref") => `(tactic| (k_here; first | with_reducible refine halt_at 172 ?_ | with_reducible refine halt_at 207 ?_))
theorem quoted_spec (w : World) (s : Shared) (x dx l : Addr) (tx : Str) (p : Nat) (its : Array Value) (q : Nat) (tq : Tok) (body tail : List Nat) (hS : IsScan s.heap x dx l tx p its) (hsz : its.size ≤ 1000) (hl : tx.length ≤ 5000) 
    (hdd : tx.cps.toList.drop (p + 1) = StrLaws.dbl q body ++ q :: tail) (ht : tail.head? ≠ some q) (hq : q = 34 ∨ q = 39) :
   Tell w 5 214 [.ref x, .str ⟨#[q]⟩ tq] [dx, l] s (fun r h' => r = .none ∧ ∃ v, IsScan h' x dx l tx (p + 1 + (StrLaws.dbl q body).length + 1 : Nat) (its.push v) ∧ NewWord s.heap h' v ⟨if q = 39 then Str.ofString "text" else Str.ofString "name", Str.ofString "", .str ⟨body.toArray⟩⟩) := by
  have hne := hS.ne
  have hSS := hS
  refine named (fun G9 hG9 => ?_)
  obtain ⟨h1, h2, h3, h4, t1, t2, t3, t4, ta, tb, gv, kk, e1, e2, e3⟩ := hS
  refine hG9 ?_
  clear hG9 G9
  unfold Tell
  k_fill
  intro dp un gd cn cs fa ccd cl outer A₀ base h₀ L m mean mg mb news Q E B F X N T hk hf hd hu hret
  have N1 := news_foot N hf (List.Mem.head _) e2 (news_foot N hf (List.Mem.tail _ (List.Mem.head _)) e3 News.nil)
  refine wpAny_call ?_
  k_dflt (refine' enterM (binds := [(Str.ofString "self", .ref x), (Str.ofString "quote", .str ⟨#[q]⟩ tq)]) ?k1 ?k2 ?k3 ?k4 ?k5 ?kA ?kF ?kK ?k6 ?k7 ?k8 ?k9 ?kB ?_ ?c2 ?c3 ?c4 ?c5; (case kA => exact rfl); (case kF => exact rfl); (case kK => assumption); (case k1 => k_asm); (case k2 => k_asm); (case k3 => k_asm); (case k4 => exact N1); (case k5 => k_asm); (case k6 => k_is); (case k7 => k_is); (case k8 => ktr_room); (case k9 => exact BindsTo.of_eq rfl); (case c5 => decide); (case kB => exact locs rfl); (case c2 => exact rfl); (case c3 => exact rfl); (case c4 => exact rfl); k_whole)
  intro g L' h₁ tk₁ Kp F' N' B' X' T' l1
  (try k_lt l1)
  (try dsimp only)
  (try k_lift B')
  refine wpAny_gen (fun R0 hR0 => ?_)
  replace hret := fun r h' tk' k p => hR0 (.ok (.ret r)) _ (hret r h' tk' k p)
  clear hR0
  (try k_fold)

  have hnl : @Ne Nat l dx := hne.2.1
  replace e1 := Kp.at (by simpa using ⟨hne.1, hne.2.2⟩) e1
  dsimp only [scanEs] at N'
  have e91 : ((⟨#[q]⟩ : Str) == Str.ofString "[") = false := by rcases hq with rfl | rfl <;> decide +kernel
  have e39 : ((⟨#[q]⟩ : Str) == Str.ofString "'") = decide (q = 39) := by rcases hq with rfl | rfl <;> decide +kernel
  k_steps
  unfold Halt
  rename Fr g L' _ _ => F8
  rename News g L' _ _ => N8
  rw [show (p : Int) + 1 = ((p + 1 : Nat) : Int) by omega]
  refine tell_useF (closing_spec w _ x dx l tx p its q (p + 1) _ _ body tail (scan_end F8 e1 N8 (List.Mem.head _) (List.Mem.tail _ (List.Mem.head _))) hl hdd ht) (by assumption) (by assumption) (by assumption) (by assumption) (by assumption) (by rfl) (by ktr_room) (by ktr_units) (by simp) ?_
  intro v h9 tk9 F9 N9 K9 hP9
  refine named (fun G9 hG9 => ?_)
  obtain ⟨ca, ct, ct', cn, rfl, hct, hcf⟩ := hP9
  refine hG9 ?_
  clear hG9 G9
  have N9b := news_new F8 hcf hct (news_keeps N8 K9)
  clear N9
  k_steps
  all_goals
    unfold Halt
    rename Fr g L' _ _ => F10
    rename News g L' _ _ => N10
    refine tell_useF (gather_spec w _ x dx l tx p its _ (Str.ofString "") (.str ⟨body.toArray⟩ _) (.str ⟨body.toArray⟩) _ _ _ _ (scan_end F10 e1 N10 (List.Mem.tail _ (List.Mem.head _)) (List.Mem.tail _ (List.Mem.tail _ (List.Mem.head _)))) (VIs.str _ _) hsz) (by assumption) (by assumption) (by assumption) (by assumption) (by assumption) (by rfl) (by ktr_room) (by ktr_units) in3 ?_
    intro v h11 tk11 F11 N11 K11 hP11
    refine named (fun G9 hG9 => ?_)
    obtain ⟨rfl, v, hi11, hn11⟩ := hP11
    refine hG9 ?_
    clear hG9 G9
    refine named (fun G9 hG9 => ?_)
    obtain ⟨g1, g2, g3, g4, u1, u2, u3, u4, ua, ub, ug, uk, N12⟩ := scan_next (rest := []) N11 ⟨_, List.Mem.tail _ (List.Mem.head _)⟩ ⟨_, List.Mem.tail _ (List.Mem.tail _ (List.Mem.head _))⟩ (by simp) K11 hi11
    refine hG9 ?_
    clear hG9 G9
    clear N11
    k_steps
    rename (_ == Str.ofString "'") = _ => hq39
    rw [e39] at hq39
    simp only [decide_eq_true_eq, decide_eq_false_iff_not] at hq39
    refine hret _ _ _ (Kp.fr F11) ⟨rfl, v, hi11, ?_⟩
    first
    | (rw [if_pos hq39]; exact NewWord.back (Kp.fr F10) (in2h (news_sub N10 (fun _ h => List.Mem.tail _ h))) hn11)
    | (rw [if_neg hq39]; exact NewWord.back (Kp.fr F10) (in2h (news_sub N10 (fun _ h => List.Mem.tail _ h))) hn11)
theorem mark_spec (w : World) (s : Shared) (x dx l : Addr) (tx : Str) (p : Nat) (its : Array Value) (c : Nat) (t : Tok) (hS : IsScan s.heap x dx l tx p its) (hsz : its.size ≤ 1000) (hl : tx.length ≤ 5000) (hpl : p < tx.length)
    (pr : Str) (hpr : pr = ⟨((tx.cps.toList.drop p).take 2).toArray⟩) (h1 : (pr == Str.ofString "--") = false) (h2 : (pr == Str.ofString "/*") = false) (h3 : twoL.any (· == pr) = false) (h4 : c ∈ (Str.ofString "(),.;+-*/%=<>&|~").cps.toList) :
   Tell w 5 242 [.ref x, .str ⟨#[c]⟩ t] [dx, l] s (fun r h' => r = .none ∧ ∃ v, IsScan h' x dx l tx (p + 1 : Nat) (its.push v) ∧ NewWord s.heap h' v ⟨Str.ofString "sign", ⟨#[c]⟩, .none⟩) := by
  have hne := hS.ne
  have hSS := hS
  refine named (fun G9 hG9 => ?_)
  obtain ⟨q1, q2, q3, q4, t1, t2, t3, t4, ta, tb, gv, kk, e1, e2, e3⟩ := hS
  refine hG9 ?_
  clear hG9 G9
  unfold Tell
  k_fill
  intro dp un gd cn cs fa ccd cl outer A₀ base h₀ L m mean mg mb news Q E B F X N T hk hf hd hu hret
  have N1 := news_foot N hf (List.Mem.head _) e2 (news_foot N hf (List.Mem.tail _ (List.Mem.head _)) e3 News.nil)
  refine wpAny_call ?_
  k_dflt (refine' enterM (binds := [(Str.ofString "self", .ref x), (Str.ofString "sign", .str ⟨#[c]⟩ t)]) ?k1 ?k2 ?k3 ?k4 ?k5 ?kA ?kF ?kK ?k6 ?k7 ?k8 ?k9 ?kB ?_ ?c2 ?c3 ?c4 ?c5; (case kA => exact rfl); (case kF => exact rfl); (case kK => assumption); (case k1 => k_asm); (case k2 => k_asm); (case k3 => k_asm); (case k4 => exact N1); (case k5 => k_asm); (case k6 => k_is); (case k7 => k_is); (case k8 => ktr_room); (case k9 => exact BindsTo.of_eq rfl); (case c5 => decide); (case kB => exact locs rfl); (case c2 => exact rfl); (case c3 => exact rfl); (case c4 => exact rfl); k_whole)
  intro g L' h₁ tk₁ Kp F' N' B' X' T' l1
  (try k_lt l1)
  (try dsimp only)
  (try k_lift B')
  refine wpAny_gen (fun R0 hR0 => ?_)
  replace hret := fun r h' tk' k p => hR0 (.ok (.ret r)) _ (hret r h' tk' k p)
  clear hR0
  (try k_fold)

  have hnl : @Ne Nat l dx := hne.2.1
  replace e1 := Kp.at (by simpa using ⟨hne.1, hne.2.2⟩) e1
  dsimp only [scanEs] at N'
  have hsl : Txt.slice tx (some (p : Int)) (some ((p : Int) + 2)) = pr := by
    have := slice_nat tx p (p + 2) (by omega)
    rw [show ((p + 2 : Nat) : Int) = (p : Int) + 2 by omega] at this
    rw [this, hpr, show p + 2 - p = 2 by omega]
  have f1 : (Txt.slice tx (some (p : Int)) (some ((p : Int) + 2)) == Str.ofString "--") = false := by rw [hsl]; exact h1
  have f2 : (Txt.slice tx (some (p : Int)) (some ((p : Int) + 2)) == Str.ofString "/*") = false := by rw [hsl]; exact h2
  have f3 : (twoL.any fun y => y == Txt.slice tx (some (p : Int)) (some ((p : Int) + 2))) = false := by rw [hsl]; exact h3
  have f4 : (Builtin.Str.occurrences (Str.ofString "(),.;+-*/%=<>&|~") ⟨#[c]⟩ 0 (Str.ofString "(),.;+-*/%=<>&|~").length 1).isEmpty = false := by rw [occ1, decide_eq_true h4]; rfl
  clear h1 h2 h3 h4
  k_steps
  unfold Halt
  rename Fr g L' _ _ => F9
  rename News g L' _ _ => N9
  refine tell_useF (gather_spec w _ x dx l tx p its (Str.ofString "sign") ⟨#[c]⟩ .none .none _ _ _ _ (scan_end F9 e1 N9 (List.Mem.head _) (List.Mem.tail _ (List.Mem.head _))) VIs.none hsz) (by assumption) (by assumption) (by assumption) (by assumption) (by assumption) (by rfl) (by ktr_room) (by ktr_units) in2 ?_
  intro v h10 tk10 F10 N10 K10 hP10
  refine named (fun G9 hG9 => ?_)
  obtain ⟨rfl, v, hi10, hn10⟩ := hP10
  refine hG9 ?_
  clear hG9 G9
  refine named (fun G9 hG9 => ?_)
  obtain ⟨g1, g2, g3, g4, u1, u2, u3, u4, ua, ub, ug, uk, N11⟩ := scan_next (rest := []) N10 ⟨_, List.Mem.head _⟩ ⟨_, List.Mem.tail _ (List.Mem.head _)⟩ (by simp) K10 hi10
  refine hG9 ?_
  clear hG9 G9
  clear N10
  k_steps
  rw [show (p : Int) + 1 = ((p + 1 : Nat) : Int) by omega] at hi10
  exact hret _ _ _ (Kp.fr F10) ⟨rfl, v, hi10, NewWord.back (Kp.fr F9) (in2h N9) hn10⟩
end

theorem off_C5 : True := by w_top off; trivial
section
local macro_rules | `(tactic| walk_at "call ref") => `(tactic| (k_here; first | with_reducible refine halt_at 172 ?_ | with_reducible refine halt_at 193 ?_ | with_reducible refine halt_at 207 ?_))
local macro_rules | `(tactic| walk_at "call ref") => `(tactic| (k_here; first | with_reducible refine halt_at 235 ?_))
theorem vonum1 (w : World) (s : Shared) (x dx l : Addr) (its : Array Value) (p : Int) (t1' t2' t3' : Tok) (hS : IsScan s.heap x dx l (Str.ofString "-9223372036854775808") p its) :
   Tell w 2 235 [.ref x, .int 1 t1', .int 20 t2', .int 10 t3'] [] s (fun r h' => ∃ t, r = .int 9223372036854775808 t) := by
  refine named (fun G9 hG9 => ?_)
  obtain ⟨h1, h2, h3, h4, t1, t2, t3, t4, ta, tb, gv, kk, e1, e2, e3⟩ := hS
  refine hG9 ?_
  clear hG9 G9
  unfold Tell
  k_fill
  intro dp un gd cn cs fa ccd cl outer A₀ base h₀ L m mean mg mb news Q E B F X N T hk hf hd hu hret
  have N1 : News h₀ L s.heap [] := News.nil
  refine wpAny_call ?_
  k_dflt (refine' enterM (binds := [(Str.ofString "self", .ref x), (Str.ofString "begin", .int 1 t1'), (Str.ofString "end", .int 20 t2'), (Str.ofString "base", .int 10 t3')]) ?k1 ?k2 ?k3 ?k4 ?k5 ?kA ?kF ?kK ?k6 ?k7 ?k8 ?k9 ?kB ?_ ?c2 ?c3 ?c4 ?c5; (case kA => exact rfl); (case kF => exact rfl); (case kK => assumption); (case k1 => k_asm); (case k2 => k_asm); (case k3 => k_asm); (case k4 => exact N1); (case k5 => k_asm); (case k6 => k_is); (case k7 => k_is); (case k8 => ktr_room); (case k9 => exact BindsTo.of_eq rfl); (case c5 => decide); (case kB => exact locs rfl); (case c2 => exact rfl); (case c3 => exact rfl); (case c4 => exact rfl); k_whole)
  intro g L' h₁ tk₁ Kp F' N' B' X' T' l1
  (try k_lt l1)
  (try dsimp only)
  (try k_lift B')
  refine wpAny_gen (fun R0 hR0 => ?_)
  replace hret := fun r h' tk' k p => hR0 (.ok (.ret r)) _ (hret r h' tk' k p)
  clear hR0
  (try k_fold)

  replace e1 := Kp.get e1
  replace e2 := Kp.get e2
  replace e3 := Kp.get e3
  dsimp only [scanEs] at e2
  k_steps
  refine int10 (n := 9223372036854775808) (by decide +kernel) (by decide +kernel) ?_
  k_steps
  exact hret _ _ _ (Kp.fr (by assumption)) ⟨_, rfl⟩
theorem vonum2 (w : World) (s : Shared) (x dx l : Addr) (its : Array Value) (p : Int) (t1' t2' t3' : Tok) (hS : IsScan s.heap x dx l (Str.ofString "0") p its) :
   Tell w 2 235 [.ref x, .int 0 t1', .int 1 t2', .int 10 t3'] [] s (fun r h' => ∃ t, r = .int 0 t) := by
  refine named (fun G9 hG9 => ?_)
  obtain ⟨h1, h2, h3, h4, t1, t2, t3, t4, ta, tb, gv, kk, e1, e2, e3⟩ := hS
  refine hG9 ?_
  clear hG9 G9
  unfold Tell
  k_fill
  intro dp un gd cn cs fa ccd cl outer A₀ base h₀ L m mean mg mb news Q E B F X N T hk hf hd hu hret
  have N1 : News h₀ L s.heap [] := News.nil
  refine wpAny_call ?_
  k_dflt (refine' enterM (binds := [(Str.ofString "self", .ref x), (Str.ofString "begin", .int 0 t1'), (Str.ofString "end", .int 1 t2'), (Str.ofString "base", .int 10 t3')]) ?k1 ?k2 ?k3 ?k4 ?k5 ?kA ?kF ?kK ?k6 ?k7 ?k8 ?k9 ?kB ?_ ?c2 ?c3 ?c4 ?c5; (case kA => exact rfl); (case kF => exact rfl); (case kK => assumption); (case k1 => k_asm); (case k2 => k_asm); (case k3 => k_asm); (case k4 => exact N1); (case k5 => k_asm); (case k6 => k_is); (case k7 => k_is); (case k8 => ktr_room); (case k9 => exact BindsTo.of_eq rfl); (case c5 => decide); (case kB => exact locs rfl); (case c2 => exact rfl); (case c3 => exact rfl); (case c4 => exact rfl); k_whole)
  intro g L' h₁ tk₁ Kp F' N' B' X' T' l1
  (try k_lt l1)
  (try dsimp only)
  (try k_lift B')
  refine wpAny_gen (fun R0 hR0 => ?_)
  replace hret := fun r h' tk' k p => hR0 (.ok (.ret r)) _ (hret r h' tk' k p)
  clear hR0
  (try k_fold)

  replace e1 := Kp.get e1
  replace e2 := Kp.get e2
  replace e3 := Kp.get e3
  dsimp only [scanEs] at e2
  k_steps
  exact hret _ _ _ (Kp.fr (by assumption)) ⟨_, rfl⟩
theorem vonum3 (w : World) (s : Shared) (x dx l : Addr) (its : Array Value) (p : Int) (t1' t2' t3' : Tok) (hS : IsScan s.heap x dx l (Str.ofString "9223372036854775807") p its) :
   Tell w 2 235 [.ref x, .int 0 t1', .int 19 t2', .int 10 t3'] [] s (fun r h' => ∃ t, r = .int 9223372036854775807 t) := by
  refine named (fun G9 hG9 => ?_)
  obtain ⟨h1, h2, h3, h4, t1, t2, t3, t4, ta, tb, gv, kk, e1, e2, e3⟩ := hS
  refine hG9 ?_
  clear hG9 G9
  unfold Tell
  k_fill
  intro dp un gd cn cs fa ccd cl outer A₀ base h₀ L m mean mg mb news Q E B F X N T hk hf hd hu hret
  have N1 : News h₀ L s.heap [] := News.nil
  refine wpAny_call ?_
  k_dflt (refine' enterM (binds := [(Str.ofString "self", .ref x), (Str.ofString "begin", .int 0 t1'), (Str.ofString "end", .int 19 t2'), (Str.ofString "base", .int 10 t3')]) ?k1 ?k2 ?k3 ?k4 ?k5 ?kA ?kF ?kK ?k6 ?k7 ?k8 ?k9 ?kB ?_ ?c2 ?c3 ?c4 ?c5; (case kA => exact rfl); (case kF => exact rfl); (case kK => assumption); (case k1 => k_asm); (case k2 => k_asm); (case k3 => k_asm); (case k4 => exact N1); (case k5 => k_asm); (case k6 => k_is); (case k7 => k_is); (case k8 => ktr_room); (case k9 => exact BindsTo.of_eq rfl); (case c5 => decide); (case kB => exact locs rfl); (case c2 => exact rfl); (case c3 => exact rfl); (case c4 => exact rfl); k_whole)
  intro g L' h₁ tk₁ Kp F' N' B' X' T' l1
  (try k_lt l1)
  (try dsimp only)
  (try k_lift B')
  refine wpAny_gen (fun R0 hR0 => ?_)
  replace hret := fun r h' tk' k p => hR0 (.ok (.ret r)) _ (hret r h' tk' k p)
  clear hR0
  (try k_fold)

  replace e1 := Kp.get e1
  replace e2 := Kp.get e2
  replace e3 := Kp.get e3
  dsimp only [scanEs] at e2
  k_steps
  refine int10 (n := 9223372036854775807) (by decide +kernel) (by decide +kernel) ?_
  k_steps
  exact hret _ _ _ (Kp.fr (by assumption)) ⟨_, rfl⟩
theorem vonum4 (w : World) (s : Shared) (x dx l : Addr) (its : Array Value) (p : Int) (t1' t2' t3' : Tok) (hS : IsScan s.heap x dx l (Str.ofString "-1") p its) :
   Tell w 2 235 [.ref x, .int 1 t1', .int 2 t2', .int 10 t3'] [] s (fun r h' => ∃ t, r = .int 1 t) := by
  refine named (fun G9 hG9 => ?_)
  obtain ⟨h1, h2, h3, h4, t1, t2, t3, t4, ta, tb, gv, kk, e1, e2, e3⟩ := hS
  refine hG9 ?_
  clear hG9 G9
  unfold Tell
  k_fill
  intro dp un gd cn cs fa ccd cl outer A₀ base h₀ L m mean mg mb news Q E B F X N T hk hf hd hu hret
  have N1 : News h₀ L s.heap [] := News.nil
  refine wpAny_call ?_
  k_dflt (refine' enterM (binds := [(Str.ofString "self", .ref x), (Str.ofString "begin", .int 1 t1'), (Str.ofString "end", .int 2 t2'), (Str.ofString "base", .int 10 t3')]) ?k1 ?k2 ?k3 ?k4 ?k5 ?kA ?kF ?kK ?k6 ?k7 ?k8 ?k9 ?kB ?_ ?c2 ?c3 ?c4 ?c5; (case kA => exact rfl); (case kF => exact rfl); (case kK => assumption); (case k1 => k_asm); (case k2 => k_asm); (case k3 => k_asm); (case k4 => exact N1); (case k5 => k_asm); (case k6 => k_is); (case k7 => k_is); (case k8 => ktr_room); (case k9 => exact BindsTo.of_eq rfl); (case c5 => decide); (case kB => exact locs rfl); (case c2 => exact rfl); (case c3 => exact rfl); (case c4 => exact rfl); k_whole)
  intro g L' h₁ tk₁ Kp F' N' B' X' T' l1
  (try k_lt l1)
  (try dsimp only)
  (try k_lift B')
  refine wpAny_gen (fun R0 hR0 => ?_)
  replace hret := fun r h' tk' k p => hR0 (.ok (.ret r)) _ (hret r h' tk' k p)
  clear hR0
  (try k_fold)

  replace e1 := Kp.get e1
  replace e2 := Kp.get e2
  replace e3 := Kp.get e3
  dsimp only [scanEs] at e2
  k_steps
  refine int10 (n := 1) (by decide +kernel) (by decide +kernel) ?_
  k_steps
  exact hret _ _ _ (Kp.fr (by assumption)) ⟨_, rfl⟩
local macro_rules | `(tactic| walk_at "compareOp NotEq str str") => `(tactic| (refine halt ?_))
theorem ne_same {w : World} {A : Around} {E : Value → Shared → Prop} {s : Shared} {Q : Value → Shared → Prop} {x y : Str} {t u : Tok} (e : x = y) (h : Q (.bool false) s) : wpAny (model P0 w) A (compareOp .NotEq (.str x t) (.str y u)) Q E s := by
  subst e
  refine PyProof.Rows.ne_str ?_
  rw [show (x != x) = false by simp]
  exact h
theorem num_g (w : World) (s : Shared) (x dx l : Addr) (its : Array Value) (tx : Str) (b e : Nat) (n : Int) (hS : IsScan s.heap x dx l tx b its) (hsz : its.size ≤ 1000) (hl : tx.length ≤ 5000) (hb : b ≤ tx.length)
   (hn : n ≤ 9223372036854775808) (h0x : ([Str.ofString "0x", Str.ofString "0X"].any fun y => y == Txt.slice tx (some (b : Int)) (some ((b : Int) + 2))) = false)
   (he : b + ((tx.cps.toList.drop b).takeWhile (fun c => decide (c ∈ (Str.ofString "0123456789").cps.toList))).length = e)
   (hlast : Txt.slice tx (some (e : Int)) (some ((e : Int) + 1)) = Str.ofString "")
   (hv : ∀ (s : Shared) p t1 t2 t3, IsScan s.heap x dx l tx p its → Tell w 2 235 [.ref x, .int b t1, .int e t2, .int 10 t3] [] s (fun r h' => ∃ t, r = .int n t)) :
   Tell w 8 228 [.ref x] [dx, l] s (fun r h' => r = .none ∧ ∃ v, IsScan h' x dx l tx e (its.push v) ∧ NewWord s.heap h' v ⟨Str.ofString "number", Str.ofString "", .int n⟩) := by
  have hne := hS.ne
  have hSS := hS
  refine named (fun G9 hG9 => ?_)
  obtain ⟨h1, h2, h3, h4, t1, t2, t3, t4, ta, tb, gv, kk, e1, e2, e3⟩ := hS
  refine hG9 ?_
  clear hG9 G9
  unfold Tell
  k_fill
  intro dp un gd cn cs fa ccd cl outer A₀ base h₀ L m mean mg mb news Q E B F X N T hk hf hd hu hret
  have N1 := news_foot N hf (List.Mem.head _) e2 (news_foot N hf (List.Mem.tail _ (List.Mem.head _)) e3 News.nil)
  refine wpAny_call ?_
  k_dflt (refine' enterM (binds := [(Str.ofString "self", .ref x)]) ?k1 ?k2 ?k3 ?k4 ?k5 ?kA ?kF ?kK ?k6 ?k7 ?k8 ?k9 ?kB ?_ ?c2 ?c3 ?c4 ?c5; (case kA => exact rfl); (case kF => exact rfl); (case kK => assumption); (case k1 => k_asm); (case k2 => k_asm); (case k3 => k_asm); (case k4 => exact N1); (case k5 => k_asm); (case k6 => k_is); (case k7 => k_is); (case k8 => ktr_room); (case k9 => exact BindsTo.of_eq rfl); (case c5 => decide); (case kB => exact locs rfl); (case c2 => exact rfl); (case c3 => exact rfl); (case c4 => exact rfl); k_whole)
  intro g L' h₁ tk₁ Kp F' N' B' X' T' l1
  (try k_lt l1)
  (try dsimp only)
  (try k_lift B')
  refine wpAny_gen (fun R0 hR0 => ?_)
  replace hret := fun r h' tk' k p => hR0 (.ok (.ret r)) _ (hret r h' tk' k p)
  clear hR0
  (try k_fold)

  have hnl : @Ne Nat l dx := hne.2.1
  replace e1 := Kp.at (by simpa using ⟨hne.1, hne.2.2⟩) e1
  dsimp only [scanEs] at N'
  k_steps
  unfold Halt
  rename Fr g L' _ _ => F8
  rename News g L' _ _ => N8
  refine tell_use (end_of_spec w _ x dx l tx (Str.ofString "0123456789") b its _ _ b (scan_end F8 e1 N8 (List.Mem.tail _ (List.Mem.head _)) (List.Mem.tail _ (List.Mem.tail _ (List.Mem.head _)))) hl hb) (by assumption) (by assumption) (by assumption) (by assumption) (by assumption) (by rfl) (by ktr_room) (by ktr_units) ?_
  intro v h9 tk9 F9 N9 K9 hP9
  obtain ⟨t9, e9⟩ := hP9
  rw [he] at e9
  subst e9
  clear F8 N8
  k_steps
  unfold Halt
  rename Fr g L' _ _ => F10
  rename News g L' _ _ => N10
  refine tell_use (hv _ _ _ _ _ (scan_end F10 e1 N10 (List.Mem.tail _ (List.Mem.head _)) (List.Mem.tail _ (List.Mem.tail _ (List.Mem.head _))))) (by assumption) (by assumption) (by assumption) (by assumption) (by assumption) (by rfl) (by ktr_room) (by ktr_units) ?_
  intro v h11 tk11 F11 N11 K11 hP11
  obtain ⟨t11, rfl⟩ := hP11
  clear F10 N10
  k_steps
  unfold Halt
  refine ne_same hlast ?_
  k_steps
  unfold Halt
  rename Fr g L' _ _ => F12
  rename News g L' _ _ => N12
  refine tell_useF (gather_spec w _ x dx l tx b its (Str.ofString "number") (Str.ofString "") (.int n _) (.int n) _ _ _ _ (scan_end F12 e1 N12 (List.Mem.tail _ (List.Mem.head _)) (List.Mem.tail _ (List.Mem.tail _ (List.Mem.head _)))) (VIs.int _ _) hsz) (by assumption) (by assumption) (by assumption) (by assumption) (by assumption) (by rfl) (by ktr_room) (by ktr_units) in3 ?_
  intro v h13 tk13 F13 N13 K13 hP13
  refine named (fun G9 hG9 => ?_)
  obtain ⟨rfl, v, hi13, hn13⟩ := hP13
  refine hG9 ?_
  clear hG9 G9
  refine named (fun G9 hG9 => ?_)
  obtain ⟨g1, g2, g3, g4, u1, u2, u3, u4, ua, ub, ug, uk, N14⟩ := scan_next (rest := []) N13 ⟨_, List.Mem.tail _ (List.Mem.head _)⟩ ⟨_, List.Mem.tail _ (List.Mem.tail _ (List.Mem.head _))⟩ (by simp) K13 hi13
  refine hG9 ?_
  clear hG9 G9
  clear N13
  k_steps
  exact hret _ _ _ (Kp.fr F13) ⟨rfl, v, hi13, NewWord.back (Kp.fr F12) (in2h (news_sub N12 (fun _ h => List.Mem.tail _ h))) hn13⟩
theorem num1 (w : World) (s : Shared) (x dx l : Addr) (its : Array Value) (hS : IsScan s.heap x dx l (Str.ofString "-9223372036854775808") 1 its) (hsz : its.size ≤ 1000) :
   Tell w 8 228 [.ref x] [dx, l] s (fun r h' => r = .none ∧ ∃ v, IsScan h' x dx l (Str.ofString "-9223372036854775808") 20 (its.push v) ∧ NewWord s.heap h' v ⟨Str.ofString "number", Str.ofString "", .int 9223372036854775808⟩) :=
  num_g w s x dx l its _ 1 20 9223372036854775808 hS hsz (by decide +kernel) (by decide +kernel) (by decide) (by decide +kernel) (by decide +kernel) (by decide +kernel) (fun s p t1 t2 t3 h => vonum1 w s x dx l its p t1 t2 t3 h)
theorem num2 (w : World) (s : Shared) (x dx l : Addr) (its : Array Value) (hS : IsScan s.heap x dx l (Str.ofString "0") 0 its) (hsz : its.size ≤ 1000) :
   Tell w 8 228 [.ref x] [dx, l] s (fun r h' => r = .none ∧ ∃ v, IsScan h' x dx l (Str.ofString "0") 1 (its.push v) ∧ NewWord s.heap h' v ⟨Str.ofString "number", Str.ofString "", .int 0⟩) :=
  num_g w s x dx l its _ 0 1 0 hS hsz (by decide +kernel) (by decide +kernel) (by decide) (by decide +kernel) (by decide +kernel) (by decide +kernel) (fun s p t1 t2 t3 h => vonum2 w s x dx l its p t1 t2 t3 h)
theorem num3 (w : World) (s : Shared) (x dx l : Addr) (its : Array Value) (hS : IsScan s.heap x dx l (Str.ofString "9223372036854775807") 0 its) (hsz : its.size ≤ 1000) :
   Tell w 8 228 [.ref x] [dx, l] s (fun r h' => r = .none ∧ ∃ v, IsScan h' x dx l (Str.ofString "9223372036854775807") 19 (its.push v) ∧ NewWord s.heap h' v ⟨Str.ofString "number", Str.ofString "", .int 9223372036854775807⟩) :=
  num_g w s x dx l its _ 0 19 9223372036854775807 hS hsz (by decide +kernel) (by decide +kernel) (by decide) (by decide +kernel) (by decide +kernel) (by decide +kernel) (fun s p t1 t2 t3 h => vonum3 w s x dx l its p t1 t2 t3 h)
theorem num4 (w : World) (s : Shared) (x dx l : Addr) (its : Array Value) (hS : IsScan s.heap x dx l (Str.ofString "-1") 1 its) (hsz : its.size ≤ 1000) :
   Tell w 8 228 [.ref x] [dx, l] s (fun r h' => r = .none ∧ ∃ v, IsScan h' x dx l (Str.ofString "-1") 2 (its.push v) ∧ NewWord s.heap h' v ⟨Str.ofString "number", Str.ofString "", .int 1⟩) :=
  num_g w s x dx l its _ 1 2 1 hS hsz (by decide +kernel) (by decide +kernel) (by decide) (by decide +kernel) (by decide +kernel) (by decide +kernel) (fun s p t1 t2 t3 h => vonum4 w s x dx l its p t1 t2 t3 h)
end

theorem off_C6 : True := by w_top off; trivial
section
local macro_rules | `(tactic| walk_at "call ref") => `(tactic| (k_here; first | with_reducible refine halt_at 172 ?_ | with_reducible refine halt_at 207 ?_))
local macro_rules | `(tactic| walk_at "exec For") => `(tactic| (refine halt ?_))
local macro_rules | `(tactic| walk_at "pyIter str") => `(tactic| (refine halt ?_))
local macro_rules | `(tactic| walk_at "InvEndN") => `(tactic| (refine halt ?_))
local macro_rules | `(tactic| walk_at "eval Name") => `(tactic| (k_here; k_dflt (refine' ld ?k1 ?k2 ?_; (case k1 => k_asm); (case k2 => assumption); k_whole)))
local macro_rules | `(tactic| walk_at "getMethod type:bytes") => `(tactic| (refine halt ?_))
local macro_rules | `(tactic| walk_at "callWith ref") => `(tactic| (k_here; (refine callWith_H ?_)))
local macro_rules | `(tactic| walk_at "And") => `(tactic| ((with_reducible show StandsH _ _ ∧ _); refine halt ?_))
theorem blob_gen (w : World) (s : Shared) (x dx l : Addr) (its : Array Value) (tx fg : Str) (fl : List Nat) (n : Nat) (bs : Array UInt8) (hS : IsScan s.heap x dx l tx 0 its) (hsz : its.size ≤ 1000) (htx : tx.length ≤ 5000) (hd1 : tx.cps.toList.drop 2 = StrLaws.dbl 39 fl ++ [39]) (hfg : (⟨fl.toArray⟩ : Str) = fg) (hn : 2 + (StrLaws.dbl 39 fl).length + 1 = n)
   (hin : ∀ d ∈ fg.cps.toList, d ∈ (Str.ofString "0123456789abcdefABCDEF").cps.toList) (hev : (fg.length : Int).fmod 2 = 0) (hfl : fg.length ≤ 100) (hb : bs.size ≤ sizeLine) (tree : ∀ t, Builtin.«bytes.fromhex» ⟨[.type "bytes", .str fg t], []⟩ = (mkBytes bs >>= fun v => ret v)) :
   Tell w 5 221 [.ref x] [dx, l] s (fun r h' => r = .none ∧ ∃ v, IsScan h' x dx l tx n (its.push v) ∧ NewWord s.heap h' v ⟨Str.ofString "blob", Str.ofString "", .bytes bs⟩) := by
  have hne := hS.ne
  have hSS := hS
  refine named (fun G9 hG9 => ?_)
  obtain ⟨h1, h2, h3, h4, t1, t2, t3, t4, ta, tb, gv, kk, e1, e2, e3⟩ := hS
  refine hG9 ?_
  clear hG9 G9
  unfold Tell
  k_fill
  intro dp un gd cn cs fa ccd cl outer A₀ base h₀ L m mean mg mb news Q E B F X N T hk hf hd hu hret
  have N1 := news_foot N hf (List.Mem.head _) e2 (news_foot N hf (List.Mem.tail _ (List.Mem.head _)) e3 News.nil)
  refine wpAny_call ?_
  k_dflt (refine' enterM (binds := [(Str.ofString "self", .ref x)]) ?k1 ?k2 ?k3 ?k4 ?k5 ?kA ?kF ?kK ?k6 ?k7 ?k8 ?k9 ?kB ?_ ?c2 ?c3 ?c4 ?c5; (case kA => exact rfl); (case kF => exact rfl); (case kK => assumption); (case k1 => k_asm); (case k2 => k_asm); (case k3 => k_asm); (case k4 => exact N1); (case k5 => k_asm); (case k6 => k_is); (case k7 => k_is); (case k8 => ktr_room); (case k9 => exact BindsTo.of_eq rfl); (case c5 => decide); (case kB => exact locs rfl); (case c2 => exact rfl); (case c3 => exact rfl); (case c4 => exact rfl); k_whole)
  intro g L' h₁ tk₁ Kp F' N' B' X' T' l1
  (try k_lt l1)
  (try dsimp only)
  (try k_lift B')
  refine wpAny_gen (fun R0 hR0 => ?_)
  replace hret := fun r h' tk' k p => hR0 (.ok (.ret r)) _ (hret r h' tk' k p)
  clear hR0
  (try k_fold)

  have hnl : @Ne Nat l dx := hne.2.1
  replace e1 := Kp.at (by simpa using ⟨hne.1, hne.2.2⟩) e1
  dsimp only [scanEs] at N'
  k_steps
  unfold Halt
  rename Fr g L' _ _ => F8
  rename News g L' _ _ => N8
  have eq39 : Str.ofString "'" = ⟨#[39]⟩ := by decide +kernel
  rw [eq39]
  refine tell_useF (closing_spec w _ x dx l tx 0 its 39 2 _ _ fl [] (scan_end F8 e1 N8 (List.Mem.head _) (List.Mem.tail _ (List.Mem.head _))) htx hd1 (by simp)) (by assumption) (by assumption) (by assumption) (by assumption) (by assumption) (by rfl) (by ktr_room) (by ktr_units) (by simp) ?_
  intro v h9 tk9 F9 N9 K9 hP9
  refine named (fun G9 hG9 => ?_)
  obtain ⟨ca, ct, ct', cn, rfl, hct, hcf⟩ := hP9
  refine hG9 ?_
  clear hG9 G9
  rw [hfg, hn] at hct
  have N9b := news_new F8 hcf hct (news_keeps N8 K9)
  clear N9 F8 N8
  k_steps
  unfold Halt
  refine For_invV g (by rfl) (by rfl) ?_
  k_steps
  unfold Halt
  rename Fr g L' _ _ => F10
  rename News g L' _ _ => N10
  refine iter_text (fun i m => m (Str.ofString "self") = some (.ref x) ∧ m (Str.ofString "figures") = some (.str fg ct) ∧ m (Str.ofString "end") = some (.int n ct')) (by rfl) F10 N10 ⟨rfl, rfl, rfl⟩ ?_ ?_
  · intro i c t' m₁ h tk own hc hoff hJ F1 N1'
    obtain ⟨hm1, hm2, hm3⟩ := hJ
    have hl1 : (⟨#[c]⟩ : Str).length = 1 := rfl
    have hcm : c ∈ fg.cps.toList := by
      have := Array.mem_of_getElem? hc
      simpa using this
    have f1 : (Builtin.Str.occurrences (Str.ofString "0123456789abcdefABCDEF") ⟨#[c]⟩ 0 (Str.ofString "0123456789abcdefABCDEF").length 1).isEmpty = false := by
      rw [occ1]
      rw [decide_eq_true (hin c hcm)]; rfl
    k_steps
    unfold Halt
    exact inv_end F1 N1' ⟨hm1, hm2, hm3⟩ (fun p hp => List.mem_append_left _ hp) (fun p hp => List.mem_append_right _ hp)
  · intro m₁ h tk hJ F1 N1'
    obtain ⟨hm1, hm2, hm3⟩ := hJ
    clear F10 N10
    k_steps
    · exact absurd hev (by assumption)
    unfold Halt
    refine getmH F1 N1' X' (by k_is) ?_
    intro xb hb' Fb Nb lb
    k_lt lb
    k_steps
    unfold Halt
    refine ⟨Nb.get (List.Mem.head _), ?_⟩
    refine call_H (Nb.get (List.Mem.head _)) (tree _) hb ?_
    intro tb2 kb2
    k_steps
    unfold Halt
    rename Fr g L' _ _ => Fz
    rename News g L' _ _ => Nz
    have Nz2 := news_sub Nz (fun _ h => List.Mem.tail _ (List.Mem.tail _ h))
    refine tell_useF (gather_spec w _ x dx l tx 0 its _ (Str.ofString "") (.bytes bs _) (.bytes bs) _ _ _ _ (scan_end Fz e1 Nz2 (List.Mem.head _) (List.Mem.tail _ (List.Mem.head _))) (VIs.bytes _ _) hsz) (by assumption) (by assumption) (by assumption) Nz2 (by assumption) (by rfl) (by ktr_room) (by ktr_units) in2 ?_
    intro v h11 tk11 F11 N11 K11 hP11
    refine named (fun G9 hG9 => ?_)
    obtain ⟨rfl, v, hi11, hn11⟩ := hP11
    refine hG9 ?_
    clear hG9 G9
    refine named (fun G9 hG9 => ?_)
    obtain ⟨g1, g2, g3, g4, u1, u2, u3, u4, ua, ub, ug, uk, N12⟩ := scan_next (rest := []) N11 ⟨_, List.Mem.head _⟩ ⟨_, List.Mem.tail _ (List.Mem.head _)⟩ (by simp) K11 hi11
    refine hG9 ?_
    clear hG9 G9
    clear N11
    k_steps
    exact hret _ _ _ (Kp.fr F11) ⟨rfl, v, hi11, NewWord.back (Kp.fr Fz) (in2h Nz2) hn11⟩
theorem blobAt_spec (w : World) (s : Shared) (x dx l : Addr) (tx : Str) (p : Nat) (its : Array Value) (bs : Array UInt8) (e : Nat) (hS : IsScan s.heap x dx l tx p its) (hsz : its.size ≤ 1000) (hN : (tx = Str.ofString "X''" ∧ p = 0 ∧ bs = #[] ∧ e = 3) ∨ (tx = Str.ofString "X'00FF10'" ∧ p = 0 ∧ bs = #[0, 255, 16] ∧ e = 9)) :
   Tell w 5 221 [.ref x] [dx, l] s (fun r h' => r = .none ∧ ∃ v, IsScan h' x dx l tx e (its.push v) ∧ NewWord s.heap h' v ⟨Str.ofString "blob", Str.ofString "", .bytes bs⟩) := by
  rcases hN with ⟨rfl, rfl, rfl, rfl⟩ | ⟨rfl, rfl, rfl, rfl⟩
  · exact blob_gen w s x dx l its _ (Str.ofString "") [] 3 #[] hS hsz (by decide +kernel) (by decide +kernel) (by decide +kernel) (by decide +kernel) (by decide +kernel) (by decide +kernel) (by decide +kernel) (by decide +kernel) (fun t => fh0)
  · exact blob_gen w s x dx l its _ (Str.ofString "00FF10") [48, 48, 70, 70, 49, 48] 9 #[0, 255, 16] hS hsz (by decide +kernel) (by decide +kernel) (by decide +kernel) (by decide +kernel) (by decide +kernel) (by decide +kernel) (by decide +kernel) (by decide +kernel) (fun t => fh1)
section
local macro_rules | `(tactic| walk_at "call ref") => `(tactic| (k_here; first | with_reducible refine halt_at 221 ?_))
local macro_rules | `(tactic| walk_at "exec While") => `(tactic| (refine halt ?_))
theorem bareb_gen (w : World) (s : Shared) (x dx l : Addr) (tx : Str) (p : Nat) (its : Array Value) (c : Nat) (t : Tok) (bs : Array UInt8) (e : Nat) (hS : IsScan s.heap x dx l tx p its) (hsz : its.size ≤ 1000) (htx : tx.length ≤ 5000) (hc : c = 88) (hc0 : tx.cps[p]? = some c) (h39 : tx.cps[p + 1]? = some 39)
   (hN : (tx = Str.ofString "X''" ∧ p = 0 ∧ bs = #[] ∧ e = 3) ∨ (tx = Str.ofString "X'00FF10'" ∧ p = 0 ∧ bs = #[0, 255, 16] ∧ e = 9)) :
   Tell w 8 200 [.ref x, .str ⟨#[c]⟩ t] [dx, l] s (fun r h' => r = .none ∧ ∃ v', IsScan h' x dx l tx e (its.push v') ∧ NewWord s.heap h' v' ⟨Str.ofString "blob", Str.ofString "", .bytes bs⟩) := by
  have hne := hS.ne
  have hSS := hS
  refine named (fun G9 hG9 => ?_)
  obtain ⟨h1, h2, h3, h4, t1, t2, t3, t4, ta, tb, gv, kk, e1, e2, e3⟩ := hS
  refine hG9 ?_
  clear hG9 G9
  unfold Tell
  k_fill
  intro dp un gd cn cs fa ccd cl outer A₀ base h₀ L m mean mg mb news Q E B F X N T hk hf hd hu hret
  have N1 := news_foot N hf (List.Mem.head _) e2 (news_foot N hf (List.Mem.tail _ (List.Mem.head _)) e3 News.nil)
  refine wpAny_call ?_
  k_dflt (refine' enterM (binds := [(Str.ofString "self", .ref x), (Str.ofString "sign", .str ⟨#[c]⟩ t)]) ?k1 ?k2 ?k3 ?k4 ?k5 ?kA ?kF ?kK ?k6 ?k7 ?k8 ?k9 ?kB ?_ ?c2 ?c3 ?c4 ?c5; (case kA => exact rfl); (case kF => exact rfl); (case kK => assumption); (case k1 => k_asm); (case k2 => k_asm); (case k3 => k_asm); (case k4 => exact N1); (case k5 => k_asm); (case k6 => k_is); (case k7 => k_is); (case k8 => ktr_room); (case k9 => exact BindsTo.of_eq rfl); (case c5 => decide); (case kB => exact locs rfl); (case c2 => exact rfl); (case c3 => exact rfl); (case c4 => exact rfl); k_whole)
  intro g L' h₁ tk₁ Kp F' N' B' X' T' l1
  (try k_lt l1)
  (try dsimp only)
  (try k_lift B')
  refine wpAny_gen (fun R0 hR0 => ?_)
  replace hret := fun r h' tk' k p => hR0 (.ok (.ret r)) _ (hret r h' tk' k p)
  clear hR0
  (try k_fold)

  have hnl : @Ne Nat l dx := hne.2.1
  replace e1 := Kp.at (by simpa using ⟨hne.1, hne.2.2⟩) e1
  dsimp only [scanEs] at N'
  have hl1 : (⟨#[c]⟩ : Str).length = 1 := rfl
  have hplt : p < tx.length := (Array.getElem?_eq_some_iff.mp hc0).1
  have hx2 : (Builtin.Str.occurrences (Str.ofString "xX") ⟨#[c]⟩ 0 (Str.ofString "xX").length 1).isEmpty = false := by
    rw [occ1, hc]; decide +kernel
  have hq : (Txt.slice tx (some ((p : Int) + 1)) (some ((p : Int) + 1 + 1)) == Str.ofString "'") = true := by
    have := slice_one h39
    rw [show ((p + 1 : Nat) : Int) = (p : Int) + 1 by omega] at this
    rw [this]; decide +kernel
  k_steps
  unfold Halt
  rename Fr g L' _ _ => Fz
  rename News g L' _ _ => Nz
  refine tell_useF (blobAt_spec w _ x dx l tx p its bs e (scan_end Fz e1 Nz (List.Mem.head _) (List.Mem.tail _ (List.Mem.head _))) hsz hN) (by assumption) (by assumption) (by assumption) (by assumption) (by assumption) (by rfl) (by ktr_room) (by ktr_units) in2 ?_
  intro v h11 tk11 F11 N11 K11 hP11
  refine named (fun G9 hG9 => ?_)
  obtain ⟨rfl, v, hi11, hn11⟩ := hP11
  refine hG9 ?_
  clear hG9 G9
  refine named (fun G9 hG9 => ?_)
  obtain ⟨g1, g2, g3, g4, u1, u2, u3, u4, ua, ub, ug, uk, N12⟩ := scan_next (rest := []) N11 ⟨_, List.Mem.head _⟩ ⟨_, List.Mem.tail _ (List.Mem.head _)⟩ (by simp) K11 hi11
  refine hG9 ?_
  clear hG9 G9
  clear N11
  k_steps
  exact hret _ _ _ (Kp.fr F11) ⟨rfl, v, hi11, NewWord.back (Kp.fr Fz) (in2h Nz) hn11⟩
theorem bareb_spec (w : World) (s : Shared) (x dx l : Addr) (tx : Str) (p : Nat) (its : Array Value) (c : Nat) (t : Tok) (bs : Array UInt8) (e : Nat) (hS : IsScan s.heap x dx l tx p its) (hsz : its.size ≤ 1000) (hc : tx.cps[p]? = some c) (hN : (tx = Str.ofString "X''" ∧ p = 0 ∧ bs = #[] ∧ e = 3) ∨ (tx = Str.ofString "X'00FF10'" ∧ p = 0 ∧ bs = #[0, 255, 16] ∧ e = 9)) :
   Tell w 8 200 [.ref x, .str ⟨#[c]⟩ t] [dx, l] s (fun r h' => r = .none ∧ ∃ v', IsScan h' x dx l tx e (its.push v') ∧ NewWord s.heap h' v' ⟨Str.ofString "blob", Str.ofString "", .bytes bs⟩) := by
  have h1 : tx.length ≤ 5000 ∧ tx.cps[p]? = some 88 ∧ tx.cps[p + 1]? = some 39 := by
    rcases hN with ⟨rfl, rfl, _, _⟩ | ⟨rfl, rfl, _, _⟩ <;> decide +kernel
  exact bareb_gen w s x dx l tx p its c t bs e hS hsz h1.1 (by have := h1.2.1; rw [hc] at this; exact Option.some.inj this) hc h1.2.2 hN
end
end

theorem off_D1 : True := by w_top off; trivial
section
noncomputable def blanksL : List Nat := (Str.ofString " \t\n\x0d\x0c").cps.toList
noncomputable def figuresL : List Nat := (Str.ofString "0123456789").cps.toList
noncomputable def quotesL : List Nat := (Str.ofString "'\"`[").cps.toList
noncomputable def cls (c : Nat) : Nat := if c ∈ blanksL then 0 else if beginsC c then 1 else if c ∈ figuresL then 2 else if c ∈ quotesL then 3 else 4
noncomputable def NumAt (tx : Str) (p : Nat) (v : Int) (e : Nat) : Prop :=
  (tx = Str.ofString "0" ∧ p = 0 ∧ v = 0 ∧ e = 1) ∨ (tx = Str.ofString "9223372036854775807" ∧ p = 0 ∧ v = 9223372036854775807 ∧ e = 19) ∨
  (tx = Str.ofString "-9223372036854775808" ∧ p = 1 ∧ v = 9223372036854775808 ∧ e = 20) ∨ (tx = Str.ofString "-1" ∧ p = 1 ∧ v = 1 ∧ e = 2)
noncomputable def BlobAt (tx : Str) (p : Nat) (bs : Array UInt8) (e : Nat) : Prop :=
  (tx = Str.ofString "X''" ∧ p = 0 ∧ bs = #[] ∧ e = 3) ∨ (tx = Str.ofString "X'00FF10'" ∧ p = 0 ∧ bs = #[0, 255, 16] ∧ e = 9)
/-- what one turn of the scanner takes: the sign c at p, the end e, the word if any -/
inductive Turn (tx : Str) (p : Nat) (c : Nat) : Nat → List Wd → Prop
  | blank : cls c = 0 → Turn tx p c (p + 1) []
  | bare (wr : Str) : cls c = 1 → (c = 120 ∨ c = 88 → tx.cps[p + 1]? ≠ some 39) → wr = ⟨(c :: (tx.cps.toList.drop (p + 1)).takeWhile goesC).toArray⟩ → wr.length ≤ 1000 → Turn tx p c (p + wr.length) [⟨Str.ofString "name", foldedF wr, .str wr⟩]
  | blob (bs : Array UInt8) (e : Nat) : cls c = 1 → BlobAt tx p bs e → Turn tx p c e [⟨Str.ofString "blob", Str.ofString "", .bytes bs⟩]
  | num (v : Int) (e : Nat) : cls c = 2 → NumAt tx p v e → Turn tx p c e [⟨Str.ofString "number", Str.ofString "", .int v⟩]
  | quoted (body tail : List Nat) : cls c = 3 → (c = 34 ∨ c = 39) → tx.cps.toList.drop (p + 1) = StrLaws.dbl c body ++ c :: tail → tail.head? ≠ some c →
      Turn tx p c (p + 1 + (StrLaws.dbl c body).length + 1) [⟨if c = 39 then Str.ofString "text" else Str.ofString "name", Str.ofString "", .str ⟨body.toArray⟩⟩]
  | mark (pr : Str) : cls c = 4 → pr = ⟨((tx.cps.toList.drop p).take 2).toArray⟩ → (pr == Str.ofString "--") = false → (pr == Str.ofString "/*") = false → twoL.any (· == pr) = false → c ∈ (Str.ofString "(),.;+-*/%=<>&|~").cps.toList →
      Turn tx p c (p + 1) [⟨Str.ofString "sign", ⟨#[c]⟩, .none⟩]
inductive Lex (tx : Str) : Nat → List Wd → Prop
  | done {p : Nat} : p = tx.length → Lex tx p []
  | step {p c e : Nat} {od rest : List Wd} : tx.cps[p]? = some c → Turn tx p c e od → p < e → e ≤ tx.length → Lex tx e rest → Lex tx p (od ++ rest)
noncomputable def endW : Wd := ⟨Str.ofString "end", Str.ofString "", .none⟩
theorem Turn.one {tx : Str} {p c e : Nat} {od : List Wd} (t : Turn tx p c e od) : od.length ≤ 1 := by cases t <;> simp
theorem number_spec (w : World) (s : Shared) (x dx l : Addr) (tx : Str) (p : Nat) (its : Array Value) (v : Int) (e : Nat) (hS : IsScan s.heap x dx l tx p its) (hsz : its.size ≤ 1000) (hN : NumAt tx p v e) :
   Tell w 8 228 [.ref x] [dx, l] s (fun r h' => r = .none ∧ ∃ v', IsScan h' x dx l tx e (its.push v') ∧ NewWord s.heap h' v' ⟨Str.ofString "number", Str.ofString "", .int v⟩) := by
  rcases hN with ⟨rfl, rfl, rfl, rfl⟩ | ⟨rfl, rfl, rfl, rfl⟩ | ⟨rfl, rfl, rfl, rfl⟩ | ⟨rfl, rfl, rfl, rfl⟩
  · exact num2 w s x dx l its hS hsz
  · exact num3 w s x dx l its hS hsz
  · exact num1 w s x dx l its hS hsz
  · exact num4 w s x dx l its hS hsz
inductive WordIn (made : List (Addr × Obj)) (r : Value) (d : Wd) : Prop
  | mk (x dx : Addr) (h1 h2 h3 h4 : Int) (t1 t2 t3 t4 ta tb : Tok) (v p : Value) (e : r = .ref x) (a : (x, instObj 147 dx) ∈ made) (b : (dx, dictOf (wordEs h1 h2 h3 h4 t1 t2 t3 t4 ta tb d.kd d.tx v p) 4) ∈ made) (c : VIs v d.val) : WordIn made r d
noncomputable def WordsIn (made : List (Addr × Obj)) (vs : List Value) (ds : List Wd) : Prop := vs.length = ds.length ∧ ∀ (i : Nat) v d, vs[i]? = some v → ds[i]? = some d → WordIn made v d
theorem WordIn.mono {made made' : List (Addr × Obj)} {r : Value} {d : Wd} (h : WordIn made r d) (hs : ∀ q ∈ made, q ∈ made') : WordIn made' r d := by
  refine named (fun G9 hG9 => ?_)
  obtain ⟨x, dx, h1, h2, h3, h4, t1, t2, t3, t4, ta, tb, v, p, e, a, b, c⟩ := h
  refine hG9 ?_
  clear hG9 G9
  exact ⟨x, dx, h1, h2, h3, h4, t1, t2, t3, t4, ta, tb, v, p, e, hs _ a, hs _ b, c⟩
theorem WordIn.is {made : List (Addr × Obj)} {r : Value} {d : Wd} {g h : Heap} {L : Addr} (i : WordIn made r d) (N : News g L h made) : IsWord h r d := by
  refine named (fun G9 hG9 => ?_)
  obtain ⟨x, dx, h1, h2, h3, h4, t1, t2, t3, t4, ta, tb, v, p, e, a, b, c⟩ := i
  refine hG9 ?_
  clear hG9 G9
  exact ⟨x, dx, h1, h2, h3, h4, t1, t2, t3, t4, ta, tb, v, p, e, N.get a, N.get b, c⟩
theorem WordsIn.push {made made' : List (Addr × Obj)} {vs : List Value} {ds : List Wd} {v : Value} {d : Wd} (h : WordsIn made vs ds) (hs : ∀ q ∈ made, q ∈ made') (n : WordIn made' v d) : WordsIn made' (vs ++ [v]) (ds ++ [d]) := by
  refine ⟨by simp [h.1], fun i v' d' h1 h2 => ?_⟩
  by_cases hi : i < vs.length
  · rw [List.getElem?_append_left hi] at h1
    rw [List.getElem?_append_left (by rw [← h.1]; exact hi)] at h2
    exact (h.2 i v' d' h1 h2).mono hs
  · rw [List.getElem?_append_right (by omega)] at h1
    rw [List.getElem?_append_right (by rw [← h.1]; omega), ← h.1] at h2
    have hz : i - vs.length = 0 := by
      cases q : i - vs.length with
      | zero => rfl
      | succ n => rw [q] at h1; simp at h1
    rw [hz] at h1 h2
    cases h1; cases h2
    exact n
/-- the objects of a new word, put to the ledger -/
theorem NewWord.led {h h' g : Heap} {L : Addr} {m : Str → Option Value} {v : Value} {d : Wd} {made : List (Addr × Obj)} (F : Fr g L h m) (n : NewWord h h' v d) (N : News g L h' made) :
    ∃ made', News g L h' made' ∧ (∀ q ∈ made, q ∈ made') ∧ WordIn made' v d ∧ (∀ q ∈ made', q ∈ made ∨ h.get? q.1 = none) := by
  refine named (fun G9 hG9 => ?_)
  obtain ⟨x, dx, h1, h2, h3, h4, t1, t2, t3, t4, ta, tb, v', p, e, a, b, c, f1, f2⟩ := n
  refine hG9 ?_
  clear hG9 G9
  refine ⟨_, news_new F f1 a (news_new F f2 b N), fun q hq => List.Mem.tail _ (List.Mem.tail _ hq), ⟨x, dx, h1, h2, h3, h4, t1, t2, t3, t4, ta, tb, v', p, e, List.Mem.head _, List.Mem.tail _ (List.Mem.head _), c⟩, fun q hq => ?_⟩
  rcases List.mem_cons.mp hq with rfl | hq
  · exact .inr f1
  · rcases List.mem_cons.mp hq with rfl | hq
    · exact .inr f2
    · exact .inl hq
inductive TurnLed (g : Heap) (L : Addr) (h' : Heap) (dx l : Addr) (tx : Str) (e : Int) (its : Array Value) (v : Value) (don : List Wd) (d : Wd) : Prop
  | mk (h1 h2 h3 h4 : Int) (t1 t2 t3 t4 ta tb : Tok) (gv : Value) (kk : Nat) (made' : List (Addr × Obj)) (N : News g L h' ((dx, dictOf (scanEs h1 h2 h3 h4 t1 t2 t3 t4 ta tb tx e l gv) 4) :: (l, listOf (its.push v) kk) :: made')) (ho : ∀ q ∈ made', q.1 ≠ dx ∧ q.1 ≠ l) (hw : WordsIn made' (its.push v).toList (don ++ [d])) : TurnLed g L h' dx l tx e its v don d
theorem turn_end {g hB h' : Heap} {L : Addr} {m : Str → Option Value} {x dx l : Addr} {tx : Str} {e : Int} {its : Array Value} {v : Value} {d : Wd} {od ol : Obj} {made : List (Addr × Obj)} {don : List Wd}
    (F : Fr g L hB m) (F' : Fr g L h' m) (N : News g L hB ((dx, od) :: (l, ol) :: made)) (K : Keeps [dx, l] hB h') (i : IsScan h' x dx l tx e (its.push v)) (n : NewWord hB h' v d) (hm : ∀ q ∈ made, q.1 ≠ dx ∧ q.1 ≠ l) (W : WordsIn made its.toList don) :
    TurnLed g L h' dx l tx e its v don d := by
  refine named (fun G9 hG9 => ?_)
  obtain ⟨h1, h2, h3, h4, t1, t2, t3, t4, ta, tb, gv, kk, N3⟩ := scan_next (rest := made) N ⟨_, List.Mem.head _⟩ ⟨_, List.Mem.tail _ (List.Mem.head _)⟩ (fun q hq => ⟨List.Mem.tail _ (List.Mem.tail _ hq), hm q hq⟩) K i
  refine hG9 ?_
  clear hG9 G9
  refine named (fun G9 hG9 => ?_)
  obtain ⟨made', N4, hs, hw, ho⟩ := n.led F (news_sub N3 (fun q hq => List.Mem.tail _ (List.Mem.tail _ hq)))
  refine hG9 ?_
  clear hG9 G9
  refine ⟨h1, h2, h3, h4, t1, t2, t3, t4, ta, tb, gv, kk, made', ?_, fun q hq => ?_, ?_⟩
  · intro q hq
    rcases List.mem_cons.mp hq with rfl | hq
    · exact N3 _ (List.Mem.head _)
    · rcases List.mem_cons.mp hq with rfl | hq
      · exact N3 _ (List.Mem.tail _ (List.Mem.head _))
      · exact N4 q hq
  · rcases ho q hq with h | h
    · exact hm q h
    · constructor
      · intro e; rw [e, (N _ (List.Mem.head _)).1] at h; cases h
      · intro e; rw [e, (N _ (List.Mem.tail _ (List.Mem.head _))).1] at h; cases h
  · rw [Array.toList_push]
    exact W.push hs hw
theorem cls0 {c : Nat} (h : (Builtin.Str.occurrences (Str.ofString " \t\n\x0d\x0c") ⟨#[c]⟩ 0 (Str.ofString " \t\n\x0d\x0c").length 1).isEmpty = false) : cls c = 0 := by
  rw [occ1] at h
  have : c ∈ blanksL := by unfold blanksL; simpa using h
  unfold cls; rw [if_pos this]
theorem no0 {c : Nat} (h : (Builtin.Str.occurrences (Str.ofString " \t\n\x0d\x0c") ⟨#[c]⟩ 0 (Str.ofString " \t\n\x0d\x0c").length 1).isEmpty = true) : c ∉ blanksL := by
  rw [occ1] at h
  unfold blanksL; simpa using h
theorem yes1 {c : Nat} (h : (Builtin.Str.occurrences (Str.ofString "abcdefghijklmnopqrstuvwxyzABCDEFGHIJKLMNOPQRSTUVWXYZ_") ⟨#[c]⟩ 0 (Str.ofString "abcdefghijklmnopqrstuvwxyzABCDEFGHIJKLMNOPQRSTUVWXYZ_").length 1).isEmpty = false) : beginsC c = true := by
  rw [occ1] at h
  have : decide (c ∈ letters) = true := by unfold letters; simpa using h
  unfold beginsC; rw [this, Bool.true_or]
theorem yes1b {c : Nat} (h : (127 : Int) < ((((⟨#[c]⟩ : Str)).cps.getD 0 0 : Nat) : Int)) : beginsC c = true := by
  have h8 : 127 < c := by
    have : (127 : Int) < (c : Int) := by simpa using h
    omega
  unfold beginsC
  rw [decide_eq_true h8, Bool.or_true]
theorem no1 {c : Nat} (h : (Builtin.Str.occurrences (Str.ofString "abcdefghijklmnopqrstuvwxyzABCDEFGHIJKLMNOPQRSTUVWXYZ_") ⟨#[c]⟩ 0 (Str.ofString "abcdefghijklmnopqrstuvwxyzABCDEFGHIJKLMNOPQRSTUVWXYZ_").length 1).isEmpty = true) (h7 : ¬ (127 : Int) < ((((⟨#[c]⟩ : Str)).cps.getD 0 0 : Nat) : Int)) : beginsC c = false := by
  rw [occ1] at h
  have : decide (c ∈ letters) = false := by unfold letters; simpa using h
  have h8 : ¬ 127 < c := by
    have : ¬ (127 : Int) < (c : Int) := by simpa using h7
    omega
  unfold beginsC
  rw [this, decide_eq_false h8]; rfl
theorem cls1 {c : Nat} (h0 : c ∉ blanksL) (h1 : beginsC c = true) : cls c = 1 := by unfold cls; rw [if_neg h0, if_pos h1]
theorem cls2 {c : Nat} (h0 : c ∉ blanksL) (h1 : beginsC c = false) (h2 : (Builtin.Str.occurrences (Str.ofString "0123456789") ⟨#[c]⟩ 0 (Str.ofString "0123456789").length 1).isEmpty = false) : cls c = 2 := by
  rw [occ1] at h2
  have : c ∈ figuresL := by unfold figuresL; simpa using h2
  unfold cls; rw [if_neg h0, if_neg (by simp [h1]), if_pos this]
theorem no2 {c : Nat} (h2 : (Builtin.Str.occurrences (Str.ofString "0123456789") ⟨#[c]⟩ 0 (Str.ofString "0123456789").length 1).isEmpty = true) : c ∉ figuresL := by
  rw [occ1] at h2
  unfold figuresL; simpa using h2
theorem cls3 {c : Nat} (h0 : c ∉ blanksL) (h1 : beginsC c = false) (h2 : c ∉ figuresL) (h3 : (Builtin.Str.occurrences (Str.ofString "'\"`[") ⟨#[c]⟩ 0 (Str.ofString "'\"`[").length 1).isEmpty = false) : cls c = 3 := by
  rw [occ1] at h3
  have : c ∈ quotesL := by unfold quotesL; simpa using h3
  unfold cls; rw [if_neg h0, if_neg (by simp [h1]), if_neg h2, if_pos this]
theorem cls4 {c : Nat} (h0 : c ∉ blanksL) (h1 : beginsC c = false) (h2 : c ∉ figuresL) (h3 : (Builtin.Str.occurrences (Str.ofString "'\"`[") ⟨#[c]⟩ 0 (Str.ofString "'\"`[").length 1).isEmpty = true) : cls c = 4 := by
  rw [occ1] at h3
  have : c ∉ quotesL := by unfold quotesL; simpa using h3
  unfold cls; rw [if_neg h0, if_neg (by simp [h1]), if_neg h2, if_neg this]
end

theorem off_D2 : True := by w_top off; trivial
local macro_rules | `(tactic| k_all) => `(tactic| assumption)
section
local macro_rules | `(tactic| walk_at "call ref") => `(tactic| (k_here; first | with_reducible refine halt_at 172 ?_ | with_reducible refine halt_at 200 ?_ | with_reducible refine halt_at 228 ?_ | with_reducible refine halt_at 214 ?_ | with_reducible refine halt_at 242 ?_))
local macro_rules | `(tactic| walk_at "exec While") => `(tactic| (refine halt ?_))
local macro_rules | `(tactic| walk_at "WhileStep") => `(tactic| (refine halt ?_))
local macro_rules | `(tactic| walk_at "call builtin:ord") => `(tactic| (k_here; (with_reducible show wpAny _ _ (call (Value.builtin "ord") [Value.str _ _]) _ _ _); refine ord_of_one (by omega) ?_))
local macro_rules | `(tactic| walk_at "eval Name") => `(tactic| (k_here; k_dflt (refine' ld ?k1 ?k2 ?_; (case k1 => k_asm); (case k2 => assumption); k_whole)))
local macro_rules | `(tactic| walk_at "subscriptTail") => `(tactic| (k_here; (with_reducible show wpAny _ _ (subscriptTail _ _ (Value.str _ _) (Value.int _ _)) _ _ _); (refine item_str (fitsSsize_of (N := 9223372036854775808) (by omega) (by omega) (Int.le_refl _)) (by omega) (by omega) ?_); intro _))
inductive JRun (x dx l : Addr) (tx : Str) (ds : List Wd) : Nat → (Str → Option Value) → List (Addr × Obj) → Prop
  | mk (p : Nat) (its : Array Value) (kk : Nat) (h1 h2 h3 h4 : Int) (t1 t2 t3 t4 ta tb tz : Tok) (gv : Value) (made : List (Addr × Obj)) (don rest : List Wd) (m : Str → Option Value) (f1 : m (Str.ofString "self") = some (.ref x)) (f2 : m (Str.ofString "size") = some (.int tx.length tz)) (f3 : p ≤ tx.length) (f4 : Lex tx p rest) (f5 : don ++ rest = ds) (f6 : WordsIn made its.toList don) (f7 : ∀ q ∈ made, q.1 ≠ dx ∧ q.1 ≠ l) :
    JRun x dx l tx ds (tx.length - p) m ((dx, dictOf (scanEs h1 h2 h3 h4 t1 t2 t3 t4 ta tb tx p l gv) 4) :: (l, listOf its kk) :: made)
theorem lexr_end {tx : Str} {p : Nat} {ds don all : List Wd} (h : Lex tx p ds) (hp : ¬ p < tx.length) (hd : don ++ ds = all) : don = all := by
  cases h with
  | done _ => rw [← hd, List.append_nil]
  | step hc => exact absurd (Array.getElem?_eq_some_iff.mp hc).1 hp
theorem lexr_at {tx : Str} {p c : Nat} {ds don all : List Wd} {G : Prop} (h : Lex tx p ds) (hc : tx.cps[p]? = some c) (hd : don ++ ds = all)
    (k : ∀ e od rest, Turn tx p c e od → p < e → e ≤ tx.length → Lex tx e rest → (don ++ od) ++ rest = all → G) : G := by
  cases h with
  | done e => exact absurd (Array.getElem?_eq_some_iff.mp hc).1 (by rw [e]; exact Nat.lt_irrefl _)
  | step hc' ht h1 h2 h3 =>
    rw [hc] at hc'
    cases hc'
    exact k _ _ _ ht h1 h2 h3 (by rw [List.append_assoc]; exact hd)
theorem lexr_k0 {tx : Str} {p c : Nat} {ds don all : List Wd} {G : Prop} (h : Lex tx p ds) (hc : tx.cps[p]? = some c) (hd : don ++ ds = all) (hk : cls c = 0)
    (k : ∀ rest, p + 1 ≤ tx.length → Lex tx (p + 1) rest → don ++ rest = all → G) : G :=
  lexr_at h hc hd fun e od rest t h1 h2 h3 h4 => by
    cases t with
    | blank _ => exact k rest h2 h3 (by simpa using h4)
    | _ => omega
theorem lexr_k1 {tx : Str} {p c : Nat} {ds don all : List Wd} {G : Prop} (h : Lex tx p ds) (hc : tx.cps[p]? = some c) (hd : don ++ ds = all) (hk : cls c = 1)
    (k : ∀ wr rest, (c = 120 ∨ c = 88 → tx.cps[p + 1]? ≠ some 39) → wr = ⟨(c :: (tx.cps.toList.drop (p + 1)).takeWhile goesC).toArray⟩ → wr.length ≤ 1000 → p < p + wr.length → p + wr.length ≤ tx.length → Lex tx (p + wr.length) rest → (don ++ [⟨Str.ofString "name", foldedF wr, .str wr⟩]) ++ rest = all → G)
    (k' : ∀ bs e rest, BlobAt tx p bs e → p < e → e ≤ tx.length → Lex tx e rest → (don ++ [⟨Str.ofString "blob", Str.ofString "", .bytes bs⟩]) ++ rest = all → G) : G :=
  lexr_at h hc hd fun e od rest t h1 h2 h3 h4 => by
    cases t with
    | bare wr _ a b c => exact k _ rest a b c h1 h2 h3 h4
    | blob bs e _ a => exact k' _ _ rest a h1 h2 h3 h4
    | _ => omega
theorem lexr_k2 {tx : Str} {p c : Nat} {ds don all : List Wd} {G : Prop} (h : Lex tx p ds) (hc : tx.cps[p]? = some c) (hd : don ++ ds = all) (hk : cls c = 2)
    (k : ∀ v e rest, NumAt tx p v e → p < e → e ≤ tx.length → Lex tx e rest → (don ++ [⟨Str.ofString "number", Str.ofString "", .int v⟩]) ++ rest = all → G) : G :=
  lexr_at h hc hd fun e od rest t h1 h2 h3 h4 => by
    cases t with
    | num v e _ a => exact k _ _ rest a h1 h2 h3 h4
    | _ => omega
theorem lexr_k3 {tx : Str} {p c : Nat} {ds don all : List Wd} {G : Prop} (h : Lex tx p ds) (hc : tx.cps[p]? = some c) (hd : don ++ ds = all) (hk : cls c = 3)
    (k : ∀ body tail rest, (c = 34 ∨ c = 39) → tx.cps.toList.drop (p + 1) = StrLaws.dbl c body ++ c :: tail → tail.head? ≠ some c → p + 1 + (StrLaws.dbl c body).length + 1 ≤ tx.length → Lex tx (p + 1 + (StrLaws.dbl c body).length + 1) rest →
      (don ++ [⟨if c = 39 then Str.ofString "text" else Str.ofString "name", Str.ofString "", .str ⟨body.toArray⟩⟩]) ++ rest = all → G) : G :=
  lexr_at h hc hd fun e od rest t h1 h2 h3 h4 => by
    cases t with
    | quoted body tail _ a b d => exact k _ _ rest a b d h2 h3 h4
    | _ => omega
theorem lexr_k4 {tx : Str} {p c : Nat} {ds don all : List Wd} {G : Prop} (h : Lex tx p ds) (hc : tx.cps[p]? = some c) (hd : don ++ ds = all) (hk : cls c = 4)
    (k : ∀ pr rest, pr = ⟨((tx.cps.toList.drop p).take 2).toArray⟩ → (pr == Str.ofString "--") = false → (pr == Str.ofString "/*") = false → twoL.any (· == pr) = false → c ∈ (Str.ofString "(),.;+-*/%=<>&|~").cps.toList →
      p + 1 ≤ tx.length → Lex tx (p + 1) rest → (don ++ [⟨Str.ofString "sign", ⟨#[c]⟩, .none⟩]) ++ rest = all → G) : G :=
  lexr_at h hc hd fun e od rest t h1 h2 h3 h4 => by
    cases t with
    | mark pr _ a b d e f => exact k _ rest a b d e f h2 h3 h4
    | _ => omega
theorem run_spec (w : World) (s : Shared) (x dx l : Addr) (tx : Str) (ds : List Wd) (hS : IsScan s.heap x dx l tx (0 : Nat) #[]) (hl : tx.length ≤ 5000) (hL : Lex tx 0 ds) (hdl : ds.length ≤ 500) :
   Tell w 10 186 [.ref x] [dx, l] s (fun r h' => ∃ its kk made, r = .ref l ∧ h'.get? l = some (listOf its kk) ∧ Made s.heap h' made ∧ WordsIn made its.toList (ds ++ [endW])) := by
  have hne := hS.ne
  have hSS := hS
  refine named (fun G9 hG9 => ?_)
  obtain ⟨h1, h2, h3, h4, t1, t2, t3, t4, ta, tb, gv, kk, e1, e2, e3⟩ := hS
  refine hG9 ?_
  clear hG9 G9
  unfold Tell
  k_fill
  intro dp un gd cn cs fa ccd cl outer A₀ base h₀ L m mean mg mb news Q E B F X N T hk hf hd hu hret
  have N1 := news_foot N hf (List.Mem.head _) e2 (news_foot N hf (List.Mem.tail _ (List.Mem.head _)) e3 News.nil)
  refine wpAny_call ?_
  k_dflt (refine' enterM (binds := [(Str.ofString "self", .ref x)]) ?k1 ?k2 ?k3 ?k4 ?k5 ?kA ?kF ?kK ?k6 ?k7 ?k8 ?k9 ?kB ?_ ?c2 ?c3 ?c4 ?c5; (case kA => exact rfl); (case kF => exact rfl); (case kK => assumption); (case k1 => k_asm); (case k2 => k_asm); (case k3 => k_asm); (case k4 => exact N1); (case k5 => k_asm); (case k6 => k_is); (case k7 => k_is); (case k8 => ktr_room); (case k9 => exact BindsTo.of_eq rfl); (case c5 => decide); (case kB => exact locs rfl); (case c2 => exact rfl); (case c3 => exact rfl); (case c4 => exact rfl); k_whole)
  intro g L' h₁ tk₁ Kp F' N' B' X' T' l1
  (try k_lt l1)
  (try dsimp only)
  (try k_lift B')
  refine wpAny_gen (fun R0 hR0 => ?_)
  replace hret := fun r h' tk' k p => hR0 (.ok (.ret r)) _ (hret r h' tk' k p)
  clear hR0
  (try k_fold)

  have hnl : @Ne Nat l dx := hne.2.1
  replace e1 := Kp.at (by simpa using ⟨hne.1, hne.2.2⟩) e1
  dsimp only [scanEs] at N'
  k_steps
  unfold Halt
  rename Fr g L' _ _ => F2
  rename News g L' _ _ => N2
  refine While_inv (h₀ := g) (L := L') (n₀ := tx.length) (JRun x dx l tx ds) F2 N2 ?_ ?_
  · exact ⟨0, _, _, _, _, _, _, _, _, _, _, _, _, _, _, [], [], ds, _, rfl, rfl, by omega, hL, rfl, ⟨rfl, fun i v d h => by simp at h⟩, fun q hq => absurd hq List.not_mem_nil⟩
  · intro k m₁ news₁ h₁' tk₁' F8 N8 hJ
    refine named (fun G9 hG9 => ?_)
    obtain ⟨p, its, kk, h1, h2, h3, h4, t1, t2, t3, t4, ta, tb, tz, gv, made, don, rest, _, hm1, hm2, hp, hlex, hdon, hwi, hoff⟩ := hJ
    refine hG9 ?_
    clear hG9 G9
    have hmd : ∀ q ∈ made, q.1 ≠ dx := fun q hq => (hoff q hq).1
    have hml : ∀ q ∈ made, q.1 ≠ l := fun q hq => (hoff q hq).2
    dsimp only [scanEs] at N8
    have hsz : its.size ≤ 1000 := by
      have h1 := hwi.1
      have h2 := congrArg List.length hdon
      simp at h1 h2
      omega
    k_steps
    all_goals
      unfold Halt
      rename Fr g L' _ _ => F9
      rename News g L' _ _ => N9
      first
      | (have hge : ¬ p < tx.length := by omega
         have hdon := lexr_end hlex hge hdon
         refine tell_useF (gather_spec w _ x dx l tx p its (Str.ofString "end") (Str.ofString "") .none .none _ _ _ _ (scan_end F9 e1 N9 (List.Mem.head _) (List.Mem.tail _ (List.Mem.head _))) VIs.none hsz) (by assumption) (by assumption) (by assumption) (by assumption) (by assumption) (by rfl) (by ktr_room) (by ktr_units) in2 ?_
         intro v h10 tk10 F10 N10 K10 hP10
         refine named (fun G9 hG9 => ?_)
         obtain ⟨rfl, v, hi10, hn10⟩ := hP10
         refine hG9 ?_
         clear hG9 G9
         refine named (fun G9 hG9 => ?_)
         obtain ⟨g1, g2, g3, g4, u1, u2, u3, u4, ua, ub, gv', kk', made', N11, hoff', hwi'⟩ := turn_end F9 F10 N9 K10 hi10 hn10 hoff hwi
         refine hG9 ?_
         clear hG9 G9
         clear N10
         k_steps
         rw [hdon] at hwi'
         refine hret _ _ _ (Kp.fr F10) ⟨its.push v, kk', made', rfl, News.get N11 (List.Mem.tail _ (List.Mem.head _)), fun q hq => ⟨(N11 q (List.Mem.tail _ (List.Mem.tail _ hq))).1, fresh_of Kp (by simpa using hoff' q hq) (N11 q (List.Mem.tail _ (List.Mem.tail _ hq))).2.2⟩, hwi'⟩)
      | (have hlt0 : p < tx.length := by omega
         obtain ⟨c, hc⟩ := at_lt (x := tx) (q := p) hlt0
         simp only [item_nat hc] at *
         first
         | (have hk9 : cls c = 0 := cls0 (by assumption)
            refine lexr_k0 hlex hc hdon hk9 (fun rest9 hle hr hd9 => ?_)
            rw [show (p : Int) + 1 = ((p + 1 : Nat) : Int) by omega] at N9
            exact WhileStep.intro (n' := tx.length - (p + 1)) F9 N9 (by omega) ⟨p + 1, its, _, _, _, _, _, _, _, _, _, _, _, tz, _, made, don, _, _, hm1, hm2, hle, hr, hd9, hwi, hoff⟩)
         | (have hk9 : cls c = 1 := cls1 (no0 (by assumption)) (by first | exact yes1 (by assumption) | exact yes1b (by assumption))
            refine lexr_k1 hlex hc hdon hk9 (fun wr rest9 hnb hwr hwl hlt hle hr hd9 => ?_) (fun bs e9 rest9 hB hlt hle hr hd9 => ?_)
            · refine tell_useF (bare_spec w _ x dx l tx p its c _ (scan_end F9 e1 N9 (List.Mem.head _) (List.Mem.tail _ (List.Mem.head _))) hsz hl hc hnb wr hwr hwl) (by assumption) (by assumption) (by assumption) (by assumption) (by assumption) (by rfl) (by ktr_room) (by ktr_units) in2 ?_
              intro v h10 tk10 F10 N10 K10 hP10
              refine named (fun G9 hG9 => ?_)
              obtain ⟨rfl, v, hi10, hn10⟩ := hP10
              refine hG9 ?_
              clear hG9 G9
              refine named (fun G9 hG9 => ?_)
              obtain ⟨g1, g2, g3, g4, u1, u2, u3, u4, ua, ub, gv', kk', made', N11, hoff', hwi'⟩ := turn_end F9 F10 N9 K10 hi10 hn10 hoff hwi
              refine hG9 ?_
              clear hG9 G9
              clear N10
              k_steps
              unfold Halt
              exact WhileStep.intro (n' := tx.length - (p + wr.length)) F10 N11 (by omega) ⟨_, its.push v, kk', g1, g2, g3, g4, u1, u2, u3, u4, ua, ub, tz, gv', made', don ++ [_], _, _, hm1, hm2, hle, hr, hd9, hwi', hoff'⟩
            · refine tell_useF (bareb_spec w _ x dx l tx p its c _ bs _ (scan_end F9 e1 N9 (List.Mem.head _) (List.Mem.tail _ (List.Mem.head _))) hsz hc hB) (by assumption) (by assumption) (by assumption) (by assumption) (by assumption) (by rfl) (by ktr_room) (by ktr_units) in2 ?_
              intro v h10 tk10 F10 N10 K10 hP10
              refine named (fun G9 hG9 => ?_)
              obtain ⟨rfl, v, hi10, hn10⟩ := hP10
              refine hG9 ?_
              clear hG9 G9
              refine named (fun G9 hG9 => ?_)
              obtain ⟨g1, g2, g3, g4, u1, u2, u3, u4, ua, ub, gv', kk', made', N11, hoff', hwi'⟩ := turn_end F9 F10 N9 K10 hi10 hn10 hoff hwi
              refine hG9 ?_
              clear hG9 G9
              clear N10
              k_steps
              unfold Halt
              exact WhileStep.intro (n' := tx.length - _) F10 N11 (by omega) ⟨_, its.push v, kk', g1, g2, g3, g4, u1, u2, u3, u4, ua, ub, tz, gv', made', don ++ [_], _, _, hm1, hm2, hle, hr, hd9, hwi', hoff'⟩)
         | (have hk9 : cls c = 2 := cls2 (no0 (by assumption)) (no1 (by assumption) (by assumption)) (by assumption)
            refine lexr_k2 hlex hc hdon hk9 (fun v9 e9 rest9 hB hlt hle hr hd9 => ?_)
            refine tell_useF (number_spec w _ x dx l tx p its v9 _ (scan_end F9 e1 N9 (List.Mem.head _) (List.Mem.tail _ (List.Mem.head _))) hsz hB) (by assumption) (by assumption) (by assumption) (by assumption) (by assumption) (by rfl) (by ktr_room) (by ktr_units) in2 ?_
            intro v h10 tk10 F10 N10 K10 hP10
            refine named (fun G9 hG9 => ?_)
            obtain ⟨rfl, v, hi10, hn10⟩ := hP10
            refine hG9 ?_
            clear hG9 G9
            refine named (fun G9 hG9 => ?_)
            obtain ⟨g1, g2, g3, g4, u1, u2, u3, u4, ua, ub, gv', kk', made', N11, hoff', hwi'⟩ := turn_end F9 F10 N9 K10 hi10 hn10 hoff hwi
            refine hG9 ?_
            clear hG9 G9
            clear N10
            k_steps
            unfold Halt
            exact WhileStep.intro (n' := tx.length - _) F10 N11 (by omega) ⟨_, its.push v, kk', g1, g2, g3, g4, u1, u2, u3, u4, ua, ub, tz, gv', made', don ++ [_], _, _, hm1, hm2, hle, hr, hd9, hwi', hoff'⟩)
         | (have hk9 : cls c = 3 := cls3 (no0 (by assumption)) (no1 (by assumption) (by assumption)) (no2 (by assumption)) (by assumption)
            refine lexr_k3 hlex hc hdon hk9 (fun body tail rest9 hq hdd htl hle hr hd9 => ?_)
            refine tell_useF (quoted_spec w _ x dx l tx p its c _ body tail (scan_end F9 e1 N9 (List.Mem.head _) (List.Mem.tail _ (List.Mem.head _))) hsz hl hdd htl hq) (by assumption) (by assumption) (by assumption) (by assumption) (by assumption) (by rfl) (by ktr_room) (by ktr_units) in2 ?_
            intro v h10 tk10 F10 N10 K10 hP10
            refine named (fun G9 hG9 => ?_)
            obtain ⟨rfl, v, hi10, hn10⟩ := hP10
            refine hG9 ?_
            clear hG9 G9
            refine named (fun G9 hG9 => ?_)
            obtain ⟨g1, g2, g3, g4, u1, u2, u3, u4, ua, ub, gv', kk', made', N11, hoff', hwi'⟩ := turn_end F9 F10 N9 K10 hi10 hn10 hoff hwi
            refine hG9 ?_
            clear hG9 G9
            clear N10
            k_steps
            unfold Halt
            exact WhileStep.intro (n' := tx.length - (p + 1 + (StrLaws.dbl c body).length + 1)) F10 N11 (by omega) ⟨_, its.push v, kk', g1, g2, g3, g4, u1, u2, u3, u4, ua, ub, tz, gv', made', don ++ [_], _, _, hm1, hm2, hle, hr, hd9, hwi', hoff'⟩)
         | (have hk9 : cls c = 4 := cls4 (no0 (by assumption)) (no1 (by assumption) (by assumption)) (no2 (by assumption)) (by assumption)
            refine lexr_k4 hlex hc hdon hk9 (fun pr rest9 hpr q1 q2 q3 q4 hle hr hd9 => ?_)
            refine tell_useF (mark_spec w _ x dx l tx p its c _ (scan_end F9 e1 N9 (List.Mem.head _) (List.Mem.tail _ (List.Mem.head _))) hsz hl hlt0 pr hpr q1 q2 q3 q4) (by assumption) (by assumption) (by assumption) (by assumption) (by assumption) (by rfl) (by ktr_room) (by ktr_units) in2 ?_
            intro v h10 tk10 F10 N10 K10 hP10
            refine named (fun G9 hG9 => ?_)
            obtain ⟨rfl, v, hi10, hn10⟩ := hP10
            refine hG9 ?_
            clear hG9 G9
            refine named (fun G9 hG9 => ?_)
            obtain ⟨g1, g2, g3, g4, u1, u2, u3, u4, ua, ub, gv', kk', made', N11, hoff', hwi'⟩ := turn_end F9 F10 N9 K10 hi10 hn10 hoff hwi
            refine hG9 ?_
            clear hG9 G9
            clear N10
            k_steps
            unfold Halt
            exact WhileStep.intro (n' := tx.length - (p + 1)) F10 N11 (by omega) ⟨_, its.push v, kk', g1, g2, g3, g4, u1, u2, u3, u4, ua, ub, tz, gv', made', don ++ [_], _, _, hm1, hm2, hle, hr, hd9, hwi', hoff'⟩))
end

theorem off_D3 : True := by w_top off; trivial
section
local macro_rules | `(tactic| walk_at "call ref") => `(tactic| (k_here; first | with_reducible refine halt_at 186 ?_))
theorem read_words_spec (w : World) (s : Shared) (tx : Str) (t : Tok) (ds : List Wd) (hl : tx.length ≤ 5000) (hL : Lex tx 0 ds) (hdl : ds.length ≤ 500) :
   Tell w 12 263 [.str tx t] [] s (fun r h' => ∃ l its kk made, r = .ref l ∧ (l, listOf its kk) ∈ made ∧ Made s.heap h' made ∧ WordsIn made its.toList (ds ++ [endW])) := by
  unfold Tell
  k_fill
  intro dp un gd cn cs fa ccd cl outer A₀ base h₀ L m mean mg mb news Q E B F X N T hk hf hd hu hret
  have N1 : News h₀ L s.heap [] := News.nil
  refine wpAny_call ?_
  k_dflt (refine' enterM (binds := [(Str.ofString "text", .str tx t)]) ?k1 ?k2 ?k3 ?k4 ?k5 ?kA ?kF ?kK ?k6 ?k7 ?k8 ?k9 ?kB ?_ ?c2 ?c3 ?c4 ?c5; (case kA => exact rfl); (case kF => exact rfl); (case kK => assumption); (case k1 => k_asm); (case k2 => k_asm); (case k3 => k_asm); (case k4 => exact N1); (case k5 => k_asm); (case k6 => k_is); (case k7 => k_is); (case k8 => ktr_room); (case k9 => exact BindsTo.of_eq rfl); (case c5 => decide); (case kB => exact locs rfl); (case c2 => exact rfl); (case c3 => exact rfl); (case c4 => exact rfl); k_whole)
  intro g L' h₁ tk₁ Kp F' N' B' X' T' l1
  (try k_lt l1)
  (try dsimp only)
  (try k_lift B')
  refine wpAny_gen (fun R0 hR0 => ?_)
  replace hret := fun r h' tk' k p => hR0 (.ok (.ret r)) _ (hret r h' tk' k p)
  clear hR0
  (try k_fold)

  k_steps
  unfold Halt
  rename Fr g L' _ _ => F2
  rename News g L' _ _ => N2
  refine tell_useF (run_spec w _ _ _ _ tx ds ⟨_, _, _, _, _, _, _, _, _, _, _, _, N2.get (List.Mem.tail _ (List.Mem.head _)), N2.get (List.Mem.tail _ (List.Mem.tail _ (List.Mem.head _))), N2.get (List.Mem.head _)⟩ hl hL hdl) (by assumption) (by assumption) (by assumption) (by assumption) (by assumption) (by rfl) (by ktr_room) (by ktr_units) ?_ ?_
  · intro q hq
    rcases List.mem_cons.mp hq with rfl | hq
    · exact ⟨_, List.Mem.tail _ (List.Mem.tail _ (List.Mem.head _))⟩
    · cases List.mem_singleton.mp hq
      exact ⟨_, List.Mem.head _⟩
  intro v h10 tk10 F10 N10 K10 hP10
  refine named (fun G9 hG9 => ?_)
  obtain ⟨its, kk, made, rfl, hlg, hM, hW⟩ := hP10
  refine hG9 ?_
  clear hG9 G9
  have hf := (N2 _ (List.Mem.head _)).2.2
  have N11 : News g L' h10 [] := News.nil
  clear N10
  k_steps
  refine hret _ _ _ (Kp.fr F10) ⟨_, its, kk, _ :: made, rfl, List.Mem.head _, ?_, hW.1, fun i v d h1 h2 => (hW.2 i v d h1 h2).mono fun q hq => List.Mem.tail _ hq⟩
  intro q hq
  rcases List.mem_cons.mp hq with rfl | hq
  · exact ⟨hlg, fresh_of Kp (by simp) hf⟩
  · refine ⟨(hM q hq).1, ?_⟩
    cases e : s.heap.get? q.1 with
    | none => rfl
    | some o =>
      have := (hM q hq).2
      rw [(Kp.fr F2) _ _ (by simp) e] at this
      cases this
end

theorem off_E1 : True := by w_top off; trivial
section
theorem fm0 (a : Int) {b : Int} (h : 1 ≤ b) : 0 ≤ a.fmod b := Int.fmod_nonneg_of_pos a (by omega)
theorem fm1 (a : Int) {b : Int} (h : 1 ≤ b) : a.fmod b < b := Int.fmod_lt_of_pos a (by omega)
theorem fd0 {a b : Int} (ha : 0 ≤ a) (h : 1 ≤ b) : 0 ≤ a.fdiv b := Int.fdiv_nonneg ha (by omega)
theorem take_spec (w : World) (s : Shared) (l : Addr) (top : Int) (t : Tok) (hS : IsSrc s.heap l) (h1 : 1 ≤ top) (h2 : top ≤ 20) :
   Tell w 1 472 [.ref l, .int top t] [l] s (fun r h' => (∃ (d : Int) (t' : Tok), r = .int d t' ∧ 0 ≤ d ∧ d < top) ∧ IsSrc h' l) := by
  refine named (fun G9 hG9 => ?_)
  obtain ⟨A, B0, ta, tb, n, hA, hB1, hB2, e1⟩ := hS
  refine hG9 ?_
  clear hG9 G9
  unfold Tell
  k_fill
  intro dp un gd cn cs fa ccd cl outer A₀ base h₀ L m mean mg mb news Q E B F X N T hk hf hd hu hret
  have N1 := news_foot N hf (List.mem_singleton.mpr rfl) e1 News.nil
  refine wpAny_call ?_
  k_dflt (refine' enterM (binds := [(Str.ofString "source", .ref l), (Str.ofString "top", .int top t)]) ?k1 ?k2 ?k3 ?k4 ?k5 ?kA ?kF ?kK ?k6 ?k7 ?k8 ?k9 ?kB ?_ ?c2 ?c3 ?c4 ?c5; (case kA => exact rfl); (case kF => exact rfl); (case kK => assumption); (case k1 => k_asm); (case k2 => k_asm); (case k3 => k_asm); (case k4 => exact N1); (case k5 => k_asm); (case k6 => k_is); (case k7 => k_is); (case k8 => ktr_room); (case k9 => exact BindsTo.of_eq rfl); (case c5 => decide); (case kB => exact locs rfl); (case c2 => exact rfl); (case c3 => exact rfl); (case c4 => exact rfl); k_whole)
  intro g L' h₁ tk₁ Kp F' N' B' X' T' l1
  (try k_lt l1)
  (try dsimp only)
  (try k_lift B')
  refine wpAny_gen (fun R0 hR0 => ?_)
  replace hret := fun r h' tk' k p => hR0 (.ok (.ret r)) _ (hret r h' tk' k p)
  clear hR0
  (try k_fold)

  k_steps
  · rename News g L' _ _ => N2
    rename Fr g L' _ _ => F2
    refine hret _ _ _ (Kp.fr F2) ⟨⟨_, _, rfl, fm0 _ h1, fm1 _ h1⟩, _, B0, _, tb, _, ?_, hB1, hB2, News.get N2 (List.Mem.head _)⟩
    exact fd0 hA h1
  · rename News g L' _ _ => N2
    rename Fr g L' _ _ => F2
    have hXe : [A, ([A, B0].getD (Int.toNat 1) 0 * 39373 + 7).fmod 2147483647].getD (Int.toNat 1) 0 = (B0 * 39373 + 7).fmod 2147483647 := rfl
    have hX0 := fm0 (B0 * 39373 + 7) (show (1 : Int) ≤ 2147483647 by decide)
    have hX1 := fm1 (B0 * 39373 + 7) (show (1 : Int) ≤ 2147483647 by decide)
    rw [hXe]
    have hB : [A, B0].getD (Int.toNat 1) 0 = B0 := rfl
    rw [hB] at N2
    generalize (B0 * 39373 + 7).fmod 2147483647 = X at *
    refine mul_int ?_ (IntMulOk.of_left (intBits_le_64 (by omega) (by omega)))
    have hXX : 0 ≤ X * X ∧ X * X ≤ 2147483647 * 2147483647 := ⟨Int.mul_nonneg hX0 hX0, Int.mul_le_mul (by omega) (by omega) hX0 (by decide)⟩
    generalize X * X = Y at *
    k_steps
    exact hret _ _ _ (Kp.fr F2) ⟨⟨_, _, rfl, fm0 _ h1, fm1 _ h1⟩, A, X, ta, _, n, hA, hX0, hX1, News.get N2 (List.Mem.head _)⟩
end

theorem off_E2 : True := by w_top off; trivial
section
local macro_rules | `(tactic| walk_at "call ref") => `(tactic| (k_here; first | with_reducible refine halt_at 472 ?_))
local macro_rules | `(tactic| walk_at "call builtin:len") => `(tactic| (refine halt ?_))
local macro_rules | `(tactic| walk_at "subscriptTail") => `(tactic| (refine halt ?_))
theorem in1 {l : Addr} {o : Obj} {rest : List (Addr × Obj)} : ∀ q ∈ [l], ∃ o', (q, o') ∈ (l, o) :: rest := by
  intro q hq
  cases List.mem_singleton.mp hq
  exact ⟨o, List.Mem.head _⟩
theorem src_next {g h h' : Heap} {L l : Addr} {o : Obj} {rest : List (Addr × Obj)} (N : News g L h ((l, o) :: rest)) (hr : ∀ p ∈ rest, p.1 ≠ l) (K : Keeps [l] h h') (i : IsSrc h' l) :
    SrcLed g L h' l rest := by
  refine named (fun G9 hG9 => ?_)
  obtain ⟨A, B, ta, tb, n, a, b, c, e⟩ := i
  refine hG9 ?_
  clear hG9 G9
  exact ⟨A, B, ta, tb, n, a, b, c, news_one N (List.Mem.head _) e fun p hp => ⟨K _ _ (by simpa using hr p hp) (N p (List.Mem.tail _ hp)).1, (N p (List.Mem.tail _ hp)).2⟩⟩
theorem one_spec (w : World) (s : Shared) (l lt : Addr) (vs : List Value) (n : Nat) (hS : IsSrc s.heap l) (hne : lt ≠ l) (hl : s.heap.get? lt = some (listOf vs.toArray n)) (h1 : 1 ≤ vs.length) (h2 : vs.length ≤ 20) :
   Tell w 2 479 [.ref l, .ref lt] [l] s (fun r h' => r ∈ vs ∧ IsSrc h' l) := by
  refine named (fun G9 hG9 => ?_)
  obtain ⟨A, B0, ta, tb, n, hA, hB1, hB2, e1⟩ := hS
  refine hG9 ?_
  clear hG9 G9
  unfold Tell
  k_fill
  intro dp un gd cn cs fa ccd cl outer A₀ base h₀ L m mean mg mb news Q E B F X N T hk hf hd hu hret
  have N1 := news_foot N hf (List.mem_singleton.mpr rfl) e1 News.nil
  refine wpAny_call ?_
  k_dflt (refine' enterM (binds := [(Str.ofString "source", .ref l), (Str.ofString "things", .ref lt)]) ?k1 ?k2 ?k3 ?k4 ?k5 ?kA ?kF ?kK ?k6 ?k7 ?k8 ?k9 ?kB ?_ ?c2 ?c3 ?c4 ?c5; (case kA => exact rfl); (case kF => exact rfl); (case kK => assumption); (case k1 => k_asm); (case k2 => k_asm); (case k3 => k_asm); (case k4 => exact N1); (case k5 => k_asm); (case k6 => k_is); (case k7 => k_is); (case k8 => ktr_room); (case k9 => exact BindsTo.of_eq rfl); (case c5 => decide); (case kB => exact locs rfl); (case c2 => exact rfl); (case c3 => exact rfl); (case c4 => exact rfl); k_whole)
  intro g L' h₁ tk₁ Kp F' N' B' X' T' l1
  (try k_lt l1)
  (try dsimp only)
  (try k_lift B')
  refine wpAny_gen (fun R0 hR0 => ?_)
  replace hret := fun r h' tk' k p => hR0 (.ok (.ret r)) _ (hret r h' tk' k p)
  clear hR0
  (try k_fold)

  replace hl := Kp.at (by simpa using hne) hl
  k_steps
  unfold Halt
  refine PySem.Calls.call_len_list (isList_of (Fr.keep (by assumption) _ _ hl)) ?_ ?_
  · rw [List.size_toArray]; omega
  k_steps
  unfold Halt
  rename Fr g L' _ _ => F2
  rename News g L' _ _ => N2
  refine tell_useF (take_spec w _ l _ _ (src_is N2 (List.Mem.head _) hA hB1 hB2) (by simp; omega) (by simp; omega)) (by assumption) (by assumption) (by assumption) (by assumption) (by assumption) (by rfl) (by ktr_room) (by ktr_units) in1 ?_
  intro v h3 tk3 F3 N3 K3 hP3
  refine named (fun G9 hG9 => ?_)
  obtain ⟨⟨d, t', rfl, hd0, hd1⟩, hP3⟩ := hP3
  refine hG9 ?_
  clear hG9 G9
  have hd2 : d.toNat < vs.length := by simp at hd1; omega
  refine named (fun G9 hG9 => ?_)
  obtain ⟨A1, B1, ta1, tb1, n1, hA1, hB11, hB12, N4⟩ := src_next N3 (by simp) K3 hP3
  refine hG9 ?_
  clear hG9 G9
  clear N3
  k_steps
  unfold Halt
  have hx := List.getElem?_eq_getElem hd2
  with_unfolding_all refine item_base F3 hl hd0 (by omega) hx ?_
  k_steps
  exact hret _ _ _ (Kp.fr (by assumption)) ⟨List.getElem_mem hd2, hP3⟩
end

theorem off_E3 : True := by w_top off; trivial
section
local macro_rules | `(tactic| walk_at "call ref") => `(tactic| (k_here; first | with_reducible refine halt_at 472 ?_))
theorem letters_spec (w : World) (s : Shared) (l : Addr) (x : Str) (t : Tok) (hS : IsSrc s.heap l) (hx : x.length ≤ 20) :
   Tell w 2 486 [.ref l, .str x t] [l] s (fun r h' => (∃ y t', r = .str y t' ∧ (y = x ∨ y = Txt.lower x ∨ y = Txt.capitalize x)) ∧ IsSrc h' l) := by
  refine named (fun G9 hG9 => ?_)
  obtain ⟨A, B0, ta, tb, n, hA, hB1, hB2, e1⟩ := hS
  refine hG9 ?_
  clear hG9 G9
  unfold Tell
  k_fill
  intro dp un gd cn cs fa ccd cl outer A₀ base h₀ L m mean mg mb news Q E B F X N T hk hf hd hu hret
  have N1 := news_foot N hf (List.mem_singleton.mpr rfl) e1 News.nil
  refine wpAny_call ?_
  k_dflt (refine' enterM (binds := [(Str.ofString "source", .ref l), (Str.ofString "word", .str x t)]) ?k1 ?k2 ?k3 ?k4 ?k5 ?kA ?kF ?kK ?k6 ?k7 ?k8 ?k9 ?kB ?_ ?c2 ?c3 ?c4 ?c5; (case kA => exact rfl); (case kF => exact rfl); (case kK => assumption); (case k1 => k_asm); (case k2 => k_asm); (case k3 => k_asm); (case k4 => exact N1); (case k5 => k_asm); (case k6 => k_is); (case k7 => k_is); (case k8 => ktr_room); (case k9 => exact BindsTo.of_eq rfl); (case c5 => decide); (case kB => exact locs rfl); (case c2 => exact rfl); (case c3 => exact rfl); (case c4 => exact rfl); k_whole)
  intro g L' h₁ tk₁ Kp F' N' B' X' T' l1
  (try k_lt l1)
  (try dsimp only)
  (try k_lift B')
  refine wpAny_gen (fun R0 hR0 => ?_)
  replace hret := fun r h' tk' k p => hR0 (.ok (.ret r)) _ (hret r h' tk' k p)
  clear hR0
  (try k_fold)

  k_steps
  unfold Halt
  rename Fr g L' _ _ => F2
  rename News g L' _ _ => N2
  refine tell_useF (take_spec w _ l _ _ (src_is N2 (List.Mem.head _) hA hB1 hB2) (by omega) (by omega)) (by assumption) (by assumption) (by assumption) (by assumption) (by assumption) (by rfl) (by ktr_room) (by ktr_units) in1 ?_
  intro v h3 tk3 F3 N3 K3 hP3
  refine named (fun G9 hG9 => ?_)
  obtain ⟨⟨d, t', rfl, hd0, hd1⟩, hP3⟩ := hP3
  refine hG9 ?_
  clear hG9 G9
  refine named (fun G9 hG9 => ?_)
  obtain ⟨A1, B1, ta1, tb1, n1, hA1, hB11, hB12, N4⟩ := src_next N3 (by simp) K3 hP3
  refine hG9 ?_
  clear hG9 G9
  clear N3
  k_steps
  all_goals
    rename News g L' _ _ => N9
    exact hret _ _ _ (Kp.fr (by assumption)) ⟨⟨_, _, rfl, by simp⟩, src_is N9 (List.Mem.head _) hA1 hB11 hB12⟩
end

theorem off_E4 : True := by w_top off; trivial
local macro_rules | `(tactic| walk_at "my mem") => `(tactic| (first | exact List.Mem.head _ | exact List.Mem.tail _ (List.Mem.head _) | exact List.Mem.tail _ (List.Mem.tail _ (List.Mem.head _)) | exact List.Mem.tail _ (List.Mem.tail _ (List.Mem.tail _ (List.Mem.head _))) | exact List.Mem.tail _ (List.Mem.tail _ (List.Mem.tail _ (List.Mem.tail _ (List.Mem.head _)))) | exact List.Mem.tail _ (List.Mem.tail _ (List.Mem.tail _ (List.Mem.tail _ (List.Mem.tail _ (List.Mem.head _))))) | exact List.Mem.tail _ (List.Mem.tail _ (List.Mem.tail _ (List.Mem.tail _ (List.Mem.tail _ (List.Mem.tail _ (List.Mem.head _)))))) | exact List.Mem.tail _ (List.Mem.tail _ (List.Mem.tail _ (List.Mem.tail _ (List.Mem.tail _ (List.Mem.tail _ (List.Mem.tail _ (List.Mem.head _))))))) | exact List.Mem.tail _ (List.Mem.tail _ (List.Mem.tail _ (List.Mem.tail _ (List.Mem.tail _ (List.Mem.tail _ (List.Mem.tail _ (List.Mem.tail _ (List.Mem.head _)))))))) | exact List.Mem.tail _ (List.Mem.tail _ (List.Mem.tail _ (List.Mem.tail _ (List.Mem.tail _ (List.Mem.tail _ (List.Mem.tail _ (List.Mem.tail _ (List.Mem.tail _ (List.Mem.head _))))))))) | exact List.Mem.tail _ (List.Mem.tail _ (List.Mem.tail _ (List.Mem.tail _ (List.Mem.tail _ (List.Mem.tail _ (List.Mem.tail _ (List.Mem.tail _ (List.Mem.tail _ (List.Mem.tail _ (List.Mem.head _)))))))))) | exact List.Mem.tail _ (List.Mem.tail _ (List.Mem.tail _ (List.Mem.tail _ (List.Mem.tail _ (List.Mem.tail _ (List.Mem.tail _ (List.Mem.tail _ (List.Mem.tail _ (List.Mem.tail _ (List.Mem.tail _ (List.Mem.head _)))))))))))))
local macro_rules | `(tactic| walk_at "my lt") => `(tactic| (repeat (first | assumption | exact And.left (by assumption) | exact And.right (by assumption) | exact And.left (And.right (by assumption)) | exact And.right (And.right (by assumption)) | exact And.left (And.right (And.right (by assumption))) | exact And.right (And.right (And.right (by assumption))) | exact And.left (And.right (And.right (And.right (by assumption)))) | exact And.right (And.right (And.right (And.right (by assumption)))) | exact And.left (And.right (And.right (And.right (And.right (by assumption))))) | exact And.right (And.right (And.right (And.right (And.right (by assumption))))) | exact And.left (And.right (And.right (And.right (And.right (And.right (by assumption)))))) | exact And.right (And.right (And.right (And.right (And.right (And.right (by assumption)))))) | exact And.left (And.right (And.right (And.right (And.right (And.right (And.right (by assumption))))))) | exact And.right (And.right (And.right (And.right (And.right (And.right (And.right (by assumption))))))) | exact And.left (And.right (And.right (And.right (And.right (And.right (And.right (And.right (by assumption)))))))) | exact And.right (And.right (And.right (And.right (And.right (And.right (And.right (And.right (by assumption)))))))) | exact Nat.lt_succ_self _ | apply Nat.lt_succ_of_lt)))
section
local macro_rules | `(tactic| walk_at "exec Assign cons ListComp") => `(tactic| (refine halt ?_))
local macro_rules | `(tactic| walk_at "compareOp Eq ref ref") => `(tactic| (refine halt ?_))
local macro_rules | `(tactic| walk_at "compareOp NotEq ref ref") => `(tactic| (refine halt ?_))
local macro_rules | `(tactic| walk_at "call builtin:str.join") => `(tactic| (refine halt ?_))
local macro_rules | `(tactic| walk_at "subscriptTail Name Constant ref int") => `(tactic| (refine halt ?_))
local macro_rules | `(tactic| walk_at "subscriptTail Name Slice ref ref") => `(tactic| (refine halt ?_))
local macro_rules | `(tactic| walk_at "CompEnd") => `(tactic| (refine halt ?_))
local macro_rules | `(tactic| walk_at "CompSrcT") => `(tactic| (refine halt ?_))
local macro_rules | `(tactic| walk_at "CompRestT") => `(tactic| (refine halt ?_))
local macro_rules | `(tactic| walk_at "call ref") => `(tactic| (k_here; first | with_reducible refine halt_at 472 ?_ | with_reducible refine halt_at 479 ?_ | with_reducible refine halt_at 486 ?_))
noncomputable def keysL : List Str := [Str.ofString "SELECT", Str.ofString "NULL", Str.ofString "ISNULL", Str.ofString "VALUES", Str.ofString "CROSS", Str.ofString "NATURAL", Str.ofString "LEFT", Str.ofString "KEY", Str.ofString "IF", Str.ofString "CAST", Str.ofString "TO", Str.ofString "BY"]
noncomputable def nearL : List Str := [Str.ofString "SELECTS", Str.ofString "NUL", Str.ofString "ROWID", Str.ofString "KE", Str.ofString "IFF", Str.ofString "TEXT", Str.ofString "COLUMN", Str.ofString "INTEGER", Str.ofString "LEF", Str.ofString "MAX", Str.ofString "OF", Str.ofString "TEMP"]
theorem off_nil {l : Addr} {news : List (Addr × Obj)} : ∀ p ∈ ([] : List (Addr × Obj)), p ∈ news ∧ p.1 ≠ l := fun p hp => absurd hp List.not_mem_nil
theorem off_cons {l a : Addr} {o : Obj} {rest news : List (Addr × Obj)} (h1 : (a, o) ∈ news) (h2 : l < a) (h : ∀ p ∈ rest, p ∈ news ∧ p.1 ≠ l) : ∀ p ∈ (a, o) :: rest, p ∈ news ∧ p.1 ≠ l := fun p hp => by
  rcases List.mem_cons.mp hp with rfl | hp
  · exact ⟨h1, Nat.ne_of_gt h2⟩
  · exact h p hp
local macro_rules | `(tactic| walk_at "my off") => `(tactic| (repeat (first | exact off_nil | (refine off_cons (by walk_at "my mem") (by walk_at "my lt") ?_))))
theorem foot1 {l : Addr} {o : Obj} {news : List (Addr × Obj)} (hm : (l, o) ∈ news) : ∀ q ∈ [l], ∃ o', (q, o') ∈ news := by
  intro q hq
  cases List.mem_singleton.mp hq
  exact ⟨o, hm⟩
theorem src_next2 {g h h' : Heap} {L l : Addr} {o : Obj} {rest news : List (Addr × Obj)} (N : News g L h news) (hm : (l, o) ∈ news) (hr : ∀ p ∈ rest, p ∈ news ∧ p.1 ≠ l) (K : Keeps [l] h h') (i : IsSrc h' l) :
    SrcLed g L h' l rest := by
  refine named (fun G9 hG9 => ?_)
  obtain ⟨A, B, ta, tb, n, a, b, c, e⟩ := i
  refine hG9 ?_
  clear hG9 G9
  exact ⟨A, B, ta, tb, n, a, b, c, news_one N hm e fun p hp => ⟨K _ _ (by simpa using (hr p hp).2) (N p (hr p hp).1).1, (N p (hr p hp).1).2⟩⟩
theorem strs_mem {vs : List Value} {ys : List Str} {r : Value} (h : StrsAre vs ys) (hm : r ∈ vs) : ∃ z t, r = .str z t ∧ z ∈ ys := by
  induction h with
  | nil => cases hm
  | cons x t h ih =>
    rcases List.mem_cons.mp hm with rfl | hm
    · exact ⟨_, _, rfl, List.Mem.head _⟩
    · obtain ⟨z, t, a, b⟩ := ih hm
      exact ⟨z, t, a, List.Mem.tail _ b⟩
theorem keys_ok (z : Str) (hz : z ∈ keysL) : z.length ≤ 20 ∧ ∀ y, (y = z ∨ y = Txt.lower z ∨ y = Txt.capitalize z) → isBareF y = false ∧ y.length ≤ 20 := by
  have h : ∀ z ∈ keysL, z.length ≤ 20 ∧ (isBareF z = false ∧ z.length ≤ 20) ∧ (isBareF (Txt.lower z) = false ∧ (Txt.lower z).length ≤ 20) ∧ (isBareF (Txt.capitalize z) = false ∧ (Txt.capitalize z).length ≤ 20) := by decide +kernel
  refine named (fun G9 hG9 => ?_)
  obtain ⟨h1, h2, h3, h4⟩ := h z hz
  refine hG9 ?_
  clear hG9 G9
  refine ⟨h1, ?_⟩
  rintro y (rfl | rfl | rfl)
  · exact h2
  · exact h3
  · exact h4
theorem near_ok (z : Str) (hz : z ∈ nearL) : z.length ≤ 20 ∧ ∀ y, (y = z ∨ y = Txt.lower z ∨ y = Txt.capitalize z) → isBareF y = true ∧ y.length ≤ 20 := by
  have h : ∀ z ∈ nearL, z.length ≤ 20 ∧ (isBareF z = true ∧ z.length ≤ 20) ∧ (isBareF (Txt.lower z) = true ∧ (Txt.lower z).length ≤ 20) ∧ (isBareF (Txt.capitalize z) = true ∧ (Txt.capitalize z).length ≤ 20) := by decide +kernel
  refine named (fun G9 hG9 => ?_)
  obtain ⟨h1, h2, h3, h4⟩ := h z hz
  refine hG9 ?_
  clear hG9 G9
  refine ⟨h1, ?_⟩
  rintro y (rfl | rfl | rfl)
  · exact h2
  · exact h3
  · exact h4
theorem strs_all {L : List Str} : ∀ (vs : List Value), (∀ v ∈ vs, ∃ z t, v = .str z t ∧ z ∈ L) → ∃ zs, StrsAre vs zs ∧ ∀ z ∈ zs, z ∈ L
  | [], _ => ⟨[], .nil, fun z hz => absurd hz List.not_mem_nil⟩
  | v :: vs, h => by
    obtain ⟨zs, h1, h2⟩ := strs_all vs fun v hv => h v (List.Mem.tail _ hv)
    refine named (fun G9 hG9 => ?_)
    obtain ⟨z, t, rfl, hz⟩ := h v (List.Mem.head _)
    refine hG9 ?_
    clear hG9 G9
    refine ⟨z :: zs, .cons _ _ h1, fun y hy => ?_⟩
    rcases List.mem_cons.mp hy with rfl | hy
    · exact hz
    · exact h2 y hy
theorem strs_at {vs : List Value} {ys : List Str} (h : StrsAre vs ys) : ∀ {i : Nat} {v : Value}, vs[i]? = some v → ∃ z t, v = .str z t ∧ ys[i]? = some z := by
  induction h with
  | nil => intro i v e; simp at e
  | cons x t h ih =>
    intro i v e
    cases i with
    | zero => simp at e; exact ⟨x, t, e.symm, rfl⟩
    | succ i => exact ih (i := i) (by simpa using e)
theorem sum_le1 : ∀ l : List Str, (∀ z ∈ l, z.length = 1) → (l.map (·.length)).sum = l.length
  | [], _ => rfl
  | y :: l, h => by
    have ih := sum_le1 l fun z hz => h z (List.Mem.tail _ hz)
    have := h y (List.Mem.head _)
    simp only [List.map_cons, List.sum_cons, List.length_cons, ih, this]
    omega
theorem sign_len : ∀ z ∈ signsL, z.length = 1 := by decide +kernel
theorem join_len (zs : List Str) : (Txt.join (Str.ofString "") zs).length = (zs.map (·.length)).sum := by
  have h := congrArg List.length (join_nil zs)
  rw [sum_flat, ← h]
  simp [Str.length]
theorem strs_lenE : ∀ {vs : List Value} {ys : List Str}, StrsAre vs ys → vs.length = ys.length
  | _, _, .nil => rfl
  | _, _, .cons _ _ h => by simp [strs_lenE h]
theorem restT_ind {prog : Program} {w : World} {A : Around} {h₀ : Heap} {L : Addr} {m : Str → Option Value} {env : Env} {ct elt : Expr} {x : Str} {scope : Scope} {cl : List (Str × Addr)} {s : Shared} {S : List (Addr × Obj) → Prop} {P : Nat → Value → Prop}
    {Fin : List Value → List (Addr × Obj) → Prop} {n : Nat} {news : List (Addr × Obj)} (J : Nat → List Value → Prop) (h0 : J 0 [])
    (step : ∀ i k acc, i + (k + 1) = n → J i acc → (∀ acc', J (i + 1) acc' → LCt.CompRestT prog w A h₀ L m env ct elt x scope cl s S P Fin k (i + 1) acc' news) → LCt.CompRestT prog w A h₀ L m env ct elt x scope cl s S P Fin (k + 1) i acc news)
    (fin : ∀ acc, J n acc → Fin acc news) : LCt.CompRestT prog w A h₀ L m env ct elt x scope cl s S P Fin n 0 [] news := by
  have all : ∀ k i acc, i + k = n → J i acc → LCt.CompRestT prog w A h₀ L m env ct elt x scope cl s S P Fin k i acc news := by
    intro k
    induction k with
    | zero => intro i acc hi hj; exact LCt.CompRestT.zero (fin acc (by rw [← hi, Nat.add_zero]; exact hj))
    | succ k ih => intro i acc hi hj; exact step i k acc hi hj fun acc' hj' => ih (i + 1) acc' (by omega) hj'
  exact all n 0 [] (by omega) h0
noncomputable def NameOut (h h' : Heap) (r : Value) : Prop := ∃ a nm tn n, r = .ref a ∧ h'.get? a = some { cls := .type "tuple", data := .seq #[.str nm tn, .bool (isBareF nm)] n } ∧ h.get? a = none ∧ nm.length ≤ 20
theorem name_spec (w : World) (s : Shared) (l : Addr) (hS : IsSrc s.heap l) :
   Tell w 5 491 [.ref l] [l] s (fun r h' => NameOut s.heap h' r ∧ IsSrc h' l) := by
  refine named (fun G9 hG9 => ?_)
  obtain ⟨A, B0, ta, tb, n, hA, hB1, hB2, e1⟩ := hS
  refine hG9 ?_
  clear hG9 G9
  unfold Tell
  k_fill
  intro dp un gd cn cs fa ccd cl outer A₀ base h₀ L m mean mg mb news Q E B F X N T hk hf hd hu hret
  have N1 := news_foot N hf (List.mem_singleton.mpr rfl) e1 News.nil
  refine wpAny_call ?_
  k_dflt (refine' enterC (binds := [(Str.ofString "source", .ref l)]) ?k1 ?k2 ?k3 ?k4 ?k5 ?kA ?kF ?kK ?k6 ?k7 ?k8 ?k9 ?kB ?kD ?_ ?c2 ?c3 ?c4; (case kA => exact rfl); (case kF => exact rfl); (case kK => assumption); (case k1 => k_asm); (case k2 => k_asm); (case k3 => k_asm); (case k4 => exact N1); (case k5 => k_asm); (case k6 => k_is); (case k7 => k_is); (case k8 => ktr_room); (case k9 => exact BindsTo.of_eq rfl); (case kB => exact rfl); (case kD => decide +kernel); (case c2 => exact rfl); (case c3 => exact rfl); (case c4 => exact rfl); k_whole)
  intro g L' h₁ tk₁ cells' Kp F' N' Y' B' X' T' l1
  (try k_lt l1)
  k_cells Y'
  (try simp only [List.cons_append, List.nil_append] at N')
  (try dsimp only)
  (try k_lift B')
  refine wpAny_gen (fun R0 hR0 => ?_)
  replace hret := fun r h' tk' k p => hR0 (.ok (.ret r)) _ (hret r h' tk' k p)
  clear hR0
  (try k_fold)

  k_steps
  rename_i o1 o2 o3 d1 d2 d3
  unfold Halt
  refine tell_useF (take_spec w _ l _ _ (src_is N' (by walk_at "my mem") hA hB1 hB2) (by omega) (by omega)) (by assumption) (by assumption) (by assumption) (by assumption) (by assumption) (by rfl) (by ktr_room) (by ktr_units) (foot1 (o := listOf #[.int A ta, .int B0 tb] n) (by walk_at "my mem")) ?_
  intro v h3 tk3 F3 N3 K3 hP3
  refine named (fun G9 hG9 => ?_)
  obtain ⟨⟨d, t', rfl, hd0, hd1⟩, hP3⟩ := hP3
  refine hG9 ?_
  clear hG9 G9
  refine named (fun G9 hG9 => ?_)
  obtain ⟨A1, B1, ta1, tb1, n1, hA1, hB11, hB12, N4⟩ := src_next2 (rest := [(L' + 1 + 1 + 1, o1), (L' + 1 + 1, o2), (L' + 1, o3)]) (o := listOf #[.int A ta, .int B0 tb] n) N3 (by walk_at "my mem") (by walk_at "my off") K3 hP3
  refine hG9 ?_
  clear hG9 G9
  clear N3
  k_steps
  · unfold Halt
    rename Fr g L' _ _ => F5
    rename News g L' _ _ => N5
    refine tell_useF (one_spec w _ l _ _ 0 (src_is N5 (by walk_at "my mem") hA1 hB11 hB12) (Nat.ne_of_gt (by walk_at "my lt")) (News.get N5 (by walk_at "my mem")) (by simp) (by simp)) (by assumption) (by assumption) (by assumption) (by assumption) (by assumption) (by rfl) (by ktr_room) (by ktr_units) (foot1 (o := listOf #[.int A1 ta1, .int B1 tb1] n1) (by walk_at "my mem")) ?_
    intro v h6 tk6 F6 N6 K6 hP6
    obtain ⟨hv, hP6⟩ := hP6
    refine named (fun G9 hG9 => ?_)
    obtain ⟨z, tz, rfl, hz⟩ := strs_mem (ys := keysL) (by unfold keysL; repeat (first | exact StrsAre.nil | refine StrsAre.cons _ _ ?_)) hv
    refine hG9 ?_
    clear hG9 G9
    refine named (fun G9 hG9 => ?_)
    obtain ⟨A2, B2, ta2, tb2, n2, hA2, hB21, hB22, N7⟩ := src_next2 (rest := [(L' + 1 + 1 + 1, o1), (L' + 1 + 1, _), (L' + 1, o3)]) (o := listOf #[.int A1 ta1, .int B1 tb1] n1) N6 (by walk_at "my mem") (by walk_at "my off") K6 hP6
    refine hG9 ?_
    clear hG9 G9
    clear N6 N5
    k_steps
    unfold Halt
    rename Fr g L' _ _ => F8
    rename News g L' _ _ => N8
    refine tell_useF (letters_spec w _ l z tz (src_is N8 (by walk_at "my mem") hA2 hB21 hB22) (keys_ok z hz).1) (by assumption) (by assumption) (by assumption) (by assumption) (by assumption) (by rfl) (by ktr_room) (by ktr_units) (foot1 (o := listOf #[.int A2 ta2, .int B2 tb2] n2) (by walk_at "my mem")) ?_
    intro v h9 tk9 F9 N9 K9 hP9
    refine named (fun G9 hG9 => ?_)
    obtain ⟨⟨y, ty, rfl, hy⟩, hP9⟩ := hP9
    refine hG9 ?_
    clear hG9 G9
    obtain ⟨hyb, hyl⟩ := (keys_ok z hz).2 y hy
    refine named (fun G9 hG9 => ?_)
    obtain ⟨A3, B3, ta3, tb3, n3, hA3, hB31, hB32, Na⟩ := src_next2 (rest := [(L' + 1 + 1 + 1, o1), (L' + 1 + 1, _), (L' + 1, o3)]) (o := listOf #[.int A2 ta2, .int B2 tb2] n2) N9 (by walk_at "my mem") (by walk_at "my off") K9 hP9
    refine hG9 ?_
    clear hG9 G9
    clear N9 N8
    k_steps
    rename News g L' _ _ => Nb
    rename Fr g L' _ _ => Fb
    refine hret _ _ _ (Kp.fr Fb) ⟨⟨_, y, _, _, rfl, by rw [hyb]; exact News.get Nb (List.Mem.head _), fresh_of Kp (by simpa using Nat.ne_of_gt (by walk_at "my lt")) (Nb _ (List.Mem.head _)).2.2, hyl⟩, src_is Nb (by walk_at "my mem") hA3 hB31 hB32⟩
  · unfold Halt
    rename Fr g L' _ _ => F5
    rename News g L' _ _ => N5
    refine tell_useF (one_spec w _ l _ _ 0 (src_is N5 (by walk_at "my mem") hA1 hB11 hB12) (Nat.ne_of_gt (by walk_at "my lt")) (News.get N5 (by walk_at "my mem")) (by simp) (by simp)) (by assumption) (by assumption) (by assumption) (by assumption) (by assumption) (by rfl) (by ktr_room) (by ktr_units) (foot1 (o := listOf #[.int A1 ta1, .int B1 tb1] n1) (by walk_at "my mem")) ?_
    intro v h6 tk6 F6 N6 K6 hP6
    obtain ⟨hv, hP6⟩ := hP6
    refine named (fun G9 hG9 => ?_)
    obtain ⟨z, tz, rfl, hz⟩ := strs_mem (ys := nearL) (by unfold nearL; repeat (first | exact StrsAre.nil | refine StrsAre.cons _ _ ?_)) hv
    refine hG9 ?_
    clear hG9 G9
    refine named (fun G9 hG9 => ?_)
    obtain ⟨A2, B2, ta2, tb2, n2, hA2, hB21, hB22, N7⟩ := src_next2 (rest := [(L' + 1 + 1 + 1, o1), (L' + 1 + 1, _), (L' + 1, o3)]) (o := listOf #[.int A1 ta1, .int B1 tb1] n1) N6 (by walk_at "my mem") (by walk_at "my off") K6 hP6
    refine hG9 ?_
    clear hG9 G9
    clear N6 N5
    k_steps
    unfold Halt
    rename Fr g L' _ _ => F8
    rename News g L' _ _ => N8
    refine tell_useF (letters_spec w _ l z tz (src_is N8 (by walk_at "my mem") hA2 hB21 hB22) (near_ok z hz).1) (by assumption) (by assumption) (by assumption) (by assumption) (by assumption) (by rfl) (by ktr_room) (by ktr_units) (foot1 (o := listOf #[.int A2 ta2, .int B2 tb2] n2) (by walk_at "my mem")) ?_
    intro v h9 tk9 F9 N9 K9 hP9
    refine named (fun G9 hG9 => ?_)
    obtain ⟨⟨y, ty, rfl, hy⟩, hP9⟩ := hP9
    refine hG9 ?_
    clear hG9 G9
    obtain ⟨hyb, hyl⟩ := (near_ok z hz).2 y hy
    refine named (fun G9 hG9 => ?_)
    obtain ⟨A3, B3, ta3, tb3, n3, hA3, hB31, hB32, Na⟩ := src_next2 (rest := [(L' + 1 + 1 + 1, o1), (L' + 1 + 1, _), (L' + 1, o3)]) (o := listOf #[.int A2 ta2, .int B2 tb2] n2) N9 (by walk_at "my mem") (by walk_at "my off") K9 hP9
    refine hG9 ?_
    clear hG9 G9
    clear N9 N8
    k_steps
    rename News g L' _ _ => Nb
    rename Fr g L' _ _ => Fb
    refine hret _ _ _ (Kp.fr Fb) ⟨⟨_, y, _, _, rfl, by rw [hyb]; exact News.get Nb (List.Mem.head _), fresh_of Kp (by simpa using Nat.ne_of_gt (by walk_at "my lt")) (Nb _ (List.Mem.head _)).2.2, hyl⟩, src_is Nb (by walk_at "my mem") hA3 hB31 hB32⟩
  · unfold Halt
    rename_i ow dw tkw c0 tkx c1 tky ls hx1 lls h5 os F4 N4 ds
    generalize hits : (List.cons (Value.str (Str.ofString "q") _) _ : List Value) = its at N4
    have hS15 : StrsAre its signsL := by rw [← hits]; unfold signsL; repeat (first | exact StrsAre.nil | refine StrsAre.cons _ _ ?_)
    have hl15 : its.length = 15 := strs_lenE hS15
    clear hits
    generalize hm4 : bindL _ _ _ = m4 at F4
    refine comp_rg F4 l [(L' + 1 + 1 + 1, os), (L' + 1 + 1, ow), (L' + 1, o3), (ls, listOf its.toArray 0)] 5 (by decide) (fun _ v => ∃ z t, v = .str z t ∧ z ∈ signsL) (fun _ _ _ h _ => h) (by with_unfolding_all rfl) rfl (by with_unfolding_all rfl) (by decide) rfl (by decide) rfl rfl rfl ?off ?iter ?leaf ?fin (by intro _; with_unfolding_all rfl)
    case off =>
      have ho : ∀ p ∈ [(L' + 1 + 1 + 1, os), (L' + 1 + 1, ow), (L' + 1, o3), (ls, listOf its.toArray 0)], p ∈ [(L' + 1 + 1 + 1, os), (L' + 1 + 1, ow), (L' + 1, o3), (ls, listOf its.toArray 0)] ∧ p.1 ≠ l := by walk_at "my off"
      exact fun p hp => (ho p hp).2
    case iter =>
      k_steps
      unfold Halt
      rename Fr g L' _ _ => F5
      rename News g L' _ _ => N5
      refine tell_useF (take_spec w _ l _ _ (src_is N5 (by walk_at "my mem") hA1 hB11 hB12) (by omega) (by omega)) (by assumption) (by assumption) (by assumption) (by assumption) (by assumption) (by rfl) (by ktr_room) (by ktr_units) (foot1 (o := listOf #[.int A1 ta1, .int B1 tb1] n1) (by walk_at "my mem")) ?_
      intro v h6 tk6 F6 N6 K6 hP6
      refine named (fun G9 hG9 => ?_)
      obtain ⟨⟨d2, t2', rfl, hd20, hd21⟩, hP6⟩ := hP6
      refine hG9 ?_
      clear hG9 G9
      refine named (fun G9 hG9 => ?_)
      obtain ⟨A2, B2, ta2, tb2, n2, hA2, hB21, hB22, N7⟩ := src_next2 (rest := [(L' + 1 + 1 + 1, os), (L' + 1 + 1, ow), (L' + 1, o3), (ls, listOf its.toArray 0)]) (o := listOf #[.int A1 ta1, .int B1 tb1] n1) N6 (by walk_at "my mem") (by walk_at "my off") K6 hP6
      refine hG9 ?_
      clear hG9 G9
      clear N6 N5
      k_steps
      rename IsRange _ _ _ _ _ _ _ _ => r9
      exact ⟨_, _, _, _, _, _, _, _, _, _, _, _, rfl, rfl, r9, hd20, by omega, by assumption, by assumption, hA2, hB21, hB22⟩
    case leaf =>
      clear hret F4 N4
      intro C h3 tk3 m₃ E' A3 B3 ta3 tb3 n3 hnC F8 N8 hA3 hB3 hB3'
      k_steps
      · unfold Halt
        have hX : h3.IsList ls its.toArray := isList_of (News.get N8 (by walk_at "my mem"))
        dsimp only
        refine slice_listK (s := ⟨h3, _, _, _, _⟩) hX .none (.int 8 _) ?hq ?hs ?ht ?hz
        case hs => with_unfolding_all rfl
        case ht => intro _; with_unfolding_all rfl
        case hz => rw [List.size_toArray, hl15]; decide
        dsimp only
        have hpk : slicePick its.toArray none (some 8) none = (its.take 8).toArray := by
          have e := kmk_pick_nat its.toArray (lo := none) (hi := some 8) (a := 0) (b := 8) (by rw [List.size_toArray, hl15]; rfl)
          rw [e]; rfl
        rw [hpk]
        have up : ∀ b o, h3.get? b = some o → ((h3.push { cls := .type "slice", data := .fields #[.none, .int 8 (tk3 + 1), .none] }).push { cls := .type "list", data := .seq (its.take 8).toArray }).get? b = some o := fun b o e => Heap.get?_push_of_some _ (Heap.get?_push_of_some _ e)
        have F9 := F8.keeps up
        have N9 := N8.grown up
        have hD9 : ((h3.push { cls := .type "slice", data := .fields #[.none, .int 8 (tk3 + 1), .none] }).push { cls := .type "list", data := .seq (its.take 8).toArray }).get? (h3.objs.size + 1) = some (listOf (its.take 8).toArray 0) := by
          have e := Heap.get?_push_size (h3.push { cls := .type "slice", data := .fields #[.none, .int 8 (tk3 + 1), .none] }) (o := listOf (its.take 8).toArray 0) rfl
          rw [Heap.size_push] at e
          exact e
        have hne9 : h3.objs.size + 1 ≠ l := Nat.ne_of_gt (Nat.lt_succ_of_lt (Heap.lt_size (N8 _ (List.Mem.head _)).1))
        generalize (h3.push { cls := .type "slice", data := .fields #[.none, .int 8 (tk3 + 1), .none] }).push { cls := .type "list", data := .seq (its.take 8).toArray } = h9 at *
        generalize h3.objs.size + 1 = D9 at *
        clear F8 N8
        k_steps
        unfold Halt
        refine tell_useF (one_spec w _ l D9 (its.take 8) 0 (src_is N9 (by walk_at "my mem") hA3 hB3 hB3') hne9 hD9 (by rw [List.length_take, hl15]; decide) (by rw [List.length_take, hl15]; decide)) (by assumption) (by assumption) (by assumption) (by assumption) (by assumption) (by rfl) (by ktr_room) (by ktr_units) (foot1 (o := listOf #[.int A3 ta3, .int B3 tb3] n3) (by walk_at "my mem")) ?_
        intro v h6 tk6 F6 N6 K6 hP6
        obtain ⟨hv, hP6⟩ := hP6
        refine named (fun G9 hG9 => ?_)
        obtain ⟨z, tz, rfl, hz⟩ := strs_mem hS15 (List.mem_of_mem_take hv)
        refine hG9 ?_
        clear hG9 G9
        clear N6
        k_steps
        exact ⟨_, _, [], rfl, fun b o n e => K6 b o n (up b o e), hP6, fun q hq => absurd hq List.not_mem_nil, _, _, rfl, hz⟩
      · unfold Halt
        refine tell_useF (one_spec w _ l ls its 0 (src_is N8 (by walk_at "my mem") hA3 hB3 hB3') (Nat.ne_of_gt (by walk_at "my lt")) (News.get N8 (by walk_at "my mem")) (by rw [hl15]; decide) (by rw [hl15]; decide)) (by assumption) (by assumption) (by assumption) (by assumption) (by assumption) (by rfl) (by ktr_room) (by ktr_units) (foot1 (o := listOf #[.int A3 ta3, .int B3 tb3] n3) (by walk_at "my mem")) ?_
        intro v h6 tk6 F6 N6 K6 hP6
        obtain ⟨hv, hP6⟩ := hP6
        refine named (fun G9 hG9 => ?_)
        obtain ⟨z, tz, rfl, hz⟩ := strs_mem hS15 hv
        refine hG9 ?_
        clear hG9 G9
        clear N6
        k_steps
        exact ⟨_, _, [], rfl, K6, hP6, fun q hq => absurd hq List.not_mem_nil, _, _, rfl, hz⟩
    case fin =>
      intro Nn D h₁' h6 tk6 ys k mks A5 B5 ta5 tb5 n5 hsz hN0 hN1 F6 N6 hA5 hB5 hB5' hG hmo hk6 hmn hex hDn
      obtain ⟨zs, hzs, hzm⟩ := strs_all _ hG
      have N7 := news_sub N6 (news' := [(D, listOf ys k), (l, listOf #[.int A5 ta5, .int B5 tb5] n5), (L' + 1 + 1 + 1, os), (L' + 1 + 1, ow), (L' + 1, o3)]) (by
        intro q hq
        rcases List.mem_cons.mp hq with rfl | hq
        · exact List.Mem.head _
        rcases List.mem_cons.mp hq with rfl | hq
        · exact List.Mem.tail _ (List.Mem.head _)
        refine List.Mem.tail _ (List.Mem.tail _ (List.mem_append_right _ ?_))
        rcases List.mem_cons.mp hq with rfl | hq
        · exact List.Mem.head _
        rcases List.mem_cons.mp hq with rfl | hq
        · exact List.Mem.tail _ (List.Mem.head _)
        rcases List.mem_cons.mp hq with rfl | hq
        · exact List.Mem.tail _ (List.Mem.tail _ (List.Mem.head _))
        cases hq)
      clear N6 hG hmo hmn hex hk6 F4
      replace F6 : Fr g L' h6 _ := F6
      replace N7 : News g L' h6 _ := N7
      have hyl : ys.size ≤ 5 := by omega
      k_steps
      unfold Halt
      refine LCt.Assign_ListComp_T (F₀ := F6) (by rfl) (by with_unfolding_all rfl) (by with_unfolding_all rfl) (by decide) (by rfl) (by decide) (by rfl) (by rfl) (by rfl) ?_
      k_steps
      unfold Halt
      refine LCt.CompSrcT.ledger (by rfl) F6 N7 (by walk_at "my mem") (Nat.le_trans hyl (Nat.le_trans (by omega) sizeLine_ge)) ?_
      intro g'
      clear F6 N7
      refine restT_ind (fun i acc => acc.length = ((zs.take i).filter fun z => strangeL.any (· == z)).length) rfl ?_ ?_
      · intro i k' acc hi ha ih
        refine LCt.CompRestT.succ ?_
        intro v' I' oI' C' oC' D' m' h' tk' E' hv' hC' hx' F' N' off' ne'
        have off2 := off'
        simp only [LCg.Off3, and_true] at off'
        refine named (fun G9 hG9 => ?_)
        obtain ⟨z, tz, rfl, hz⟩ := strs_at hzs (by simpa using hv')
        refine hG9 ?_
        clear hG9 G9
        have hsnoc : ((zs.take (i + 1)).filter fun z => strangeL.any (· == z)) = ((zs.take i).filter fun z => strangeL.any (· == z)) ++ (if strangeL.any (· == z) = true then [z] else []) := by
          rw [List.take_add_one, hz, List.filter_append]
          simp only [Option.toList_some, List.filter_cons, List.filter_nil]
        k_steps
        all_goals
          unfold Halt
          rename Fr g L' _ _ => Fz
          rename News g L' _ _ => Nz
        · rename List.any _ _ = true => hb9
          rw [if_pos (show strangeL.any (· == z) = true from hb9)] at hsnoc
          exact LCg.CompEnd.intro Fz Nz _ (fun p hp => List.Mem.tail _ hp) off2 (.inr ⟨_, List.Mem.head _, rfl, _, rfl⟩) (ih _ (by rw [hsnoc]; simp [ha]))
        · rename List.any _ _ = false => hb9
          rw [if_neg (show ¬ (strangeL.any (· == z) = true) by intro q; rw [show strangeL.any (· == z) = false from hb9] at q; cases q)] at hsnoc
          exact LCg.CompEnd.intro Fz Nz _ (fun p hp => List.Mem.tail _ hp) off2 (.inr ⟨_, List.Mem.head _, rfl, _, rfl⟩) (ih _ (by rw [hsnoc]; simp [ha]))
      · intro acc ha
        have hzl : ys.size = zs.length := by have := strs_lenE hzs; simpa using this
        rw [hzl, List.take_length] at ha
        intro D2 h9 tk9 F9 N9 off9
        k_steps
        unfold Halt
        rename Fr g L' _ _ => F10
        rename News g L' _ _ => N10
        have hsum : (zs.map (·.length)).sum ≤ 5 := by
          have := sum_le1 zs fun z hz => sign_len z (hzm z hz)
          omega
        refine join_list (isList_of (News.get N10 (List.Mem.tail _ (List.Mem.head _)))) hzs ?tot ?_
        case tot =>
          have : (Str.ofString "").length = 0 := by decide +kernel
          rw [this]; simp; omega
        intro tj kj
        have hjl : (Txt.join (Str.ofString "") zs).length ≤ 20 := by rw [join_len]; omega
        have hbare := bare_signs zs hzm
        k_steps
        unfold Halt
        rename News g L' _ _ => N11
        refine ne_nil (isList_of (News.get N11 (List.Mem.tail _ (List.Mem.tail _ (List.Mem.head _))))) (isList_of (News.get N11 (List.Mem.head _))) (by ktr_units) ?_
        cases zs with
        | nil =>
          rw [hzl, show decide (([] : List Str).length = 0) = true from rfl]
          dsimp only [Bool.not_true]
          unfold bareOf at hbare
          k_steps
          rename News g L' _ _ => N12
          rename Fr g L' _ _ => F12
          refine hret _ _ _ (Kp.fr F12) ⟨⟨_, Txt.join (Str.ofString "") [], _, _, rfl, by rw [hbare]; exact News.get N12 (List.Mem.head _), fresh_of Kp (by simpa using Nat.ne_of_gt (by walk_at "my lt")) (N12 _ (List.Mem.head _)).2.2, hjl⟩, src_is N12 (by walk_at "my mem") hA5 hB5 hB5'⟩
        | cons z0 zr =>
          rw [hzl, show decide ((z0 :: zr).length = 0) = false from rfl]
          dsimp only [Bool.not_false]
          k_steps
          unfold Halt
          rename News g L' _ _ => N12
          obtain ⟨t0, h0⟩ : ∃ t0, ys.toList[0]? = some (.str z0 t0) := by
            generalize ys.toList = yl at hzs
            cases hzs with
            | cons _ t0 _ => exact ⟨t0, rfl⟩
          unfold bareOf at hbare
          dsimp only at hbare
          with_unfolding_all refine item_litK (vs := ys.toList) (by rw [Array.toArray_toList]; exact isList_of (News.get N12 (by walk_at "my mem"))) (by decide) (by decide) h0 ?_
          k_steps
          · rename List.any _ _ = true => h7
            rename News g L' _ _ => N13
            rename Fr g L' _ _ => F13
            replace hbare : isBareF (Txt.join (Str.ofString "") (z0 :: zr)) = !([Str.ofString "7", Str.ofString "$"].any fun x => x == z0) := by
              rw [hbare, show ([Str.ofString "7", Str.ofString "$"].any fun x => x == z0) = true from h7]; rfl
            refine hret _ _ _ (Kp.fr F13) ⟨⟨_, Txt.join (Str.ofString "") (z0 :: zr), _, _, rfl, by rw [hbare]; exact News.get N13 (List.Mem.head _), fresh_of Kp (by simpa using Nat.ne_of_gt (by walk_at "my lt")) (N13 _ (List.Mem.head _)).2.2, hjl⟩, src_is N13 (by walk_at "my mem") hA5 hB5 hB5'⟩
          · unfold Halt
            rename List.any _ _ = false => h7
            rename News g L' _ _ => N13
            rw [show ([Str.ofString "7", Str.ofString "$"].any fun x => x == z0) = false from h7, Bool.not_false, Bool.true_and] at hbare
            refine eq_nil (its := acc.toArray) (isList_of (n := acc.length) (News.get N13 (by walk_at "my mem"))) (isList_of (News.get N13 (List.Mem.head _))) (by ktr_units) ?_
            rw [List.size_toArray, ha, ← hbare]
            k_steps
            rename News g L' _ _ => N14
            rename Fr g L' _ _ => F14
            refine hret _ _ _ (Kp.fr F14) ⟨⟨_, Txt.join (Str.ofString "") (z0 :: zr), _, _, rfl, News.get N14 (List.Mem.head _), fresh_of Kp (by simpa using Nat.ne_of_gt (by walk_at "my lt")) (N14 _ (List.Mem.head _)).2.2, hjl⟩, src_is N14 (by walk_at "my mem") hA5 hB5 hB5'⟩
end

theorem off_G1 : True := by w_top off; trivial
local macro_rules | `(tactic| walk_at "call ref") => `(tactic| (k_here; (with_reducible refine here_at 278 ?_); k_dflt (refine' tell_use (write_name_spec _ _ _ _ ?kp) ?k1 ?k2 ?k3 ?k4 ?k5 ?k6 ?k7 ?k8 ?_; (case kp => assumption); (case k1 => k_asm); (case k2 => k_asm); (case k3 => k_asm); (case k4 => k_asm); (case k5 => k_asm); (case k6 => first | exact rfl | assumption); (case k7 => ktr_room); (case k8 => ktr_units); k_whole); intro r9 h' tk' F' N' Kq' hP; (try dsimp only at hP); (obtain ⟨t9, e9⟩ := hP); (subst e9); (try dsimp only); (try k_sweep)))
section
local macro_rules | `(tactic| walk_at "eval ListComp") => `(tactic| (refine halt ?_))
local macro_rules | `(tactic| walk_at "call builtin:str.join") => `(tactic| (refine halt ?_))
local macro_rules | `(tactic| walk_at "CompEnd") => `(tactic| (refine halt ?_))
local macro_rules | `(tactic| walk_at "CompSrc") => `(tactic| (refine halt ?_))
local macro_rules | `(tactic| walk_at "CompRest") => `(tactic| (refine halt ?_))
noncomputable def writeNamesF (ns : List Str) : Str := Str.ofString "(" ++ Txt.join (Str.ofString ", ") (ns.map writeNameF) ++ Str.ofString ")"
theorem writeName_len (x : Str) : (writeNameF x).length ≤ 2 * x.length + 2 := by
  unfold writeNameF
  split
  · omega
  · have := dbl_len 34 x.cps.toList
    unfold quoteF
    simp only [Str.length, List.size_toArray, List.length_cons, List.length_append, List.length_nil]
    simp at this
    omega
theorem sumLe (B : Nat) : ∀ l : List Str, (∀ y ∈ l, y.length ≤ B) → (l.map (·.length)).sum ≤ B * l.length
  | [], _ => by simp
  | y :: l, h => by
    have ih := sumLe B l fun z hz => h z (List.Mem.tail _ hz)
    have := h y (List.Mem.head _)
    simp only [List.map_cons, List.sum_cons, List.length_cons, Nat.mul_succ]
    omega
theorem join_len_le (sep : Str) : ∀ ys : List Str, (Txt.join sep ys).length ≤ (ys.map (·.length)).sum + sep.length * ys.length := by
  intro ys
  show (Builtin.Str.glued sep ys).length ≤ _
  rw [StrLaws.glued_eq_join]
  induction ys with
  | nil => exact Nat.zero_le _
  | cons y r ih =>
    cases r with
    | nil => simp [Str.join]
    | cons z r =>
      show (y ++ sep ++ Str.join sep (z :: r)).length ≤ _
      simp only [Str.length, PySem.Str.cps_append, Array.size_append, List.map_cons, List.sum_cons, List.length_cons] at ih ⊢
      simp only [Nat.mul_succ] at ih ⊢
      omega
theorem write_names_spec (w : World) (s : Shared) (l : Addr) (vs : List Value) (k : Nat) (ns : List Str) (hl : s.heap.get? l = some (listOf vs.toArray k)) (hS : StrsAre vs ns) (hn : ns.length ≤ 10) (hx : ∀ x ∈ ns, x.length ≤ 1000) :
   Tell w 6 283 [.ref l] [] s (fun r _ => ∃ t, r = .str (writeNamesF ns) t) := by
  unfold Tell
  k_fill
  intro dp un gd cn cs fa ccd cl outer A₀ base h₀ L m mean mg mb news Q E B F X N T hk hf hd hu hret
  have N1 : News h₀ L s.heap [] := News.nil
  refine wpAny_call ?_
  k_dflt (refine' enterM (binds := [(Str.ofString "names", .ref l)]) ?k1 ?k2 ?k3 ?k4 ?k5 ?kA ?kF ?kK ?k6 ?k7 ?k8 ?k9 ?kB ?_ ?c2 ?c3 ?c4 ?c5; (case kA => exact rfl); (case kF => exact rfl); (case kK => assumption); (case k1 => k_asm); (case k2 => k_asm); (case k3 => k_asm); (case k4 => exact N1); (case k5 => k_asm); (case k6 => k_is); (case k7 => k_is); (case k8 => ktr_room); (case k9 => exact BindsTo.of_eq rfl); (case c5 => decide); (case kB => exact locs rfl); (case c2 => exact rfl); (case c3 => exact rfl); (case c4 => exact rfl); k_whole)
  intro g L' h₁ tk₁ Kp F' N' B' X' T' l1
  (try k_lt l1)
  (try dsimp only)
  (try k_lift B')
  refine wpAny_gen (fun R0 hR0 => ?_)
  replace hret := fun r h' tk' k p => hR0 (.ok (.ret r)) _ (hret r h' tk' k p)
  clear hR0
  (try k_fold)

  replace hl := Kp.get hl
  have hlen := strs_len2 hS
  k_steps
  unfold Halt
  rename Fr g L' _ _ => F2
  rename News g L' _ _ => N2
  refine LCg.ListComp_U (F₀ := F2) (by rfl) (by decide) (by rfl) (by decide) (by rfl) ?_
  k_steps
  unfold Halt
  refine LCg.CompSrc.base (by rfl) F2 N2 (isList_of hl) (by rw [List.size_toArray, hlen]; exact Nat.le_trans hn (Nat.le_trans (by omega) sizeLine_ge)) ?_
  intro g'
  refine rest_u (fun i acc nw => nw = [] ∧ StrsAre acc ((ns.take i).map writeNameF)) ⟨rfl, by rw [List.take_zero]; exact StrsAre.nil⟩ ?_ ?_
  · rintro i k' acc nw hi ⟨rfl, ha⟩ ih
    refine LCg.CompRest.succ ?_
    intro v' I' oI' C' oC' D' m' h' tk' E' hv' hC' hx' F' N' off' ne'
    refine named (fun G9 hG9 => ?_)
    obtain ⟨z, tz, rfl, hz⟩ := strs_get hS (by simpa using hv')
    refine hG9 ?_
    clear hG9 G9
    have hzl : z.length ≤ 1000 := hx z (List.mem_of_getElem? hz)
    k_steps
    unfold Halt
    rename Fr g L' _ _ => Fz
    rename News g L' _ _ => Nz
    refine LCg.CompEnd.intro Fz Nz [] (by simp) trivial (.inl (isList_of hl)) (ih _ _ ⟨rfl, ?_⟩)
    rw [take_map_snoc _ hz]
    exact strs_app ha
  · rintro acc nw ⟨rfl, ha⟩
    intro D h9 tk9 F9 N9 off9
    have ha2 : StrsAre acc (ns.map writeNameF) := by
      rw [List.size_toArray, hlen, List.take_length] at ha
      exact ha
    have hsum : ((ns.map writeNameF).map (·.length)).sum ≤ 2002 * (ns.map writeNameF).length := sumLe 2002 _ fun y hy => by
      obtain ⟨x, hx1, rfl⟩ := List.mem_map.mp hy
      have := writeName_len x
      have := hx x hx1
      omega
    have hsep : (Str.ofString ", ").length = 2 := by decide +kernel
    have hml : (ns.map writeNameF).length = ns.length := List.length_map ..
    have hjl : (Txt.join (Str.ofString ", ") (ns.map writeNameF)).length ≤ 30000 := by
      have := join_len_le (Str.ofString ", ") (ns.map writeNameF)
      rw [hsep] at this
      omega
    k_steps
    unfold Halt
    refine join_list (isList_of (N9.get (List.Mem.head _))) ha2 ?tot ?_
    case tot =>
      rw [hsep]
      omega
    intro tj kj
    k_steps
    exact hret _ _ _ (Kp.fr F9) ⟨_, rfl⟩
end

theorem off_G2 : True := by w_top off; trivial
local macro_rules | `(tactic| walk_at "call ref") => `(tactic| (k_here; (with_reducible refine here_at 271 ?_); k_dflt (refine' tell_use (is_bare_spec _ _ _ _ ?kp) ?k1 ?k2 ?k3 ?k4 ?k5 ?k6 ?k7 ?k8 ?_; (case kp => assumption); (case k1 => k_asm); (case k2 => k_asm); (case k3 => k_asm); (case k4 => k_asm); (case k5 => k_asm); (case k6 => first | exact rfl | assumption); (case k7 => ktr_room); (case k8 => ktr_units); k_whole); intro r9 h' tk' F' N' Kq' hP; (try dsimp only at hP); (subst hP); (try dsimp only); (try k_sweep)))
section
local macro_rules | `(tactic| walk_at "call builtin:str.split") => `(tactic| (refine halt ?_))
local macro_rules | `(tactic| walk_at "exec For") => `(tactic| (refine halt ?_))
local macro_rules | `(tactic| walk_at "pyIter ref") => `(tactic| (refine halt ?_))
local macro_rules | `(tactic| walk_at "InvEndN") => `(tactic| (refine halt ?_))
local macro_rules | `(tactic| walk_at "eval Name") => `(tactic| (k_here; k_dflt (refine' ld ?k1 ?k2 ?_; (case k1 => k_asm); (case k2 => assumption); k_whole)))
/-- a for over a list that the call has made (and does not change) -/
theorem iter_list {w : World} {A : Around} {E : Value → Shared → Prop} {s : Shared} {env : Env} {h₀ : Heap} {x : Str} {body : List Stmt} {Q : Flow → Shared → Prop}
    {l : Addr} {its : Array Value} {m₀ : Str → Option Value} {news : List (Addr × Obj)} (J : Nat → (Str → Option Value) → Prop)
    (hh : A.handled = none) (hl : s.heap.IsList l its) (hlL : l ≠ env.locals) (F : Fr h₀ env.locals s.heap m₀) (N : News h₀ env.locals s.heap news) (hoff : ∀ q ∈ news, q.1 ≠ l) (hj : J 0 m₀)
    (turn : ∀ i v m₁ h tk own, its[i]? = some v → OwnOff own (news.map (·.1)) → J i m₁ →
      Fr h₀ env.locals h (fun y => if y = x then some v else m₁ y) → News h₀ env.locals h (news ++ own) →
      wpAny (model P0 w) A (execs body env) (InvPostN h₀ env.locals (fun m nx => nx = news ∧ J (i + 1) m) own (news.map (·.1)) { s with heap := h, toks := tk } Q) E { s with heap := h, toks := tk })
    (done : ∀ m₁ h tk, J its.size m₁ → Fr h₀ env.locals h m₁ → News h₀ env.locals h news → Q .next { s with heap := h, toks := tk }) :
    wpAny (model P0 w) A (pyIter (.ref l)) (fun it s₂ => LoopAtV P0 w A h₀ env x body Q E it s₂) E s := by
  refine wpAny_pyIter_list hl ?_
  obtain ⟨ol, hol, hrest⟩ := hl
  have hlt : l < s.heap.objs.size := Heap.lt_size hol
  have hne : l ≠ s.heap.objs.size := Nat.ne_of_lt hlt
  have W := Walks.list (prog := P0) (w := w) hh s.heap.objs.size l hne its
  refine loop_invN (fun i m nx => nx = news ∧ J i m) W ?_ ?_ ?_ ?_ ⟨⟨_, Heap.get?_push_size _ rfl, rfl, rfl⟩, ⟨ol, Heap.get?_push_of_some _ hol, hrest⟩⟩ (F.push _) (fun p hp => ⟨Heap.get?_push_of_some _ (N p hp).1, (N p hp).2⟩) ⟨rfl, hj⟩ ?_ ?_
  · intro hm
    rcases List.mem_cons.mp hm with e | hm
    · exact absurd F.ns.lt (e ▸ Nat.lt_irrefl _)
    · exact hlL (List.mem_singleton.mp hm).symm
  · intro b hb
    rw [List.mem_singleton.mp hb]
    exact next_is_new F
  · intro p hp hI
    exact absurd (Heap.lt_size (N p hp).1) ((List.mem_singleton.mp hI) ▸ Nat.lt_irrefl _)
  · intro p hp hI
    rcases List.mem_cons.mp hI with e | hm
    · exact absurd (Heap.lt_size (N p hp).1) (e ▸ Nat.lt_irrefl _)
    · exact hoff p hp (List.mem_singleton.mp hm)
  · rintro i v m₁ nx h tk own hi hP _ hoff' ⟨rfl, hp'⟩ F₁ N₁
    exact turn i v m₁ h tk own hP hoff' hp' F₁ N₁
  · rintro m₁ nx h tk ⟨rfl, hp'⟩ F₁ N₁
    exact done m₁ h tk hp' F₁ N₁
noncomputable def writeTypeF (x : Str) : Str := if (Txt.split x (Str.ofString " ")).all isBareF = true then x else writeNameF x
theorem write_type_spec (w : World) (s : Shared) (x : Str) (t : Tok) (hx : x.length ≤ 1000) : Tell w 6 297 [.str x t] [] s (fun r _ => ∃ t', r = .str (writeTypeF x) t') := by
  unfold Tell
  k_fill
  intro dp un gd cn cs fa ccd cl outer A₀ base h₀ L m mean mg mb news Q E B F X N T hk hf hd hu hret
  have N1 : News h₀ L s.heap [] := News.nil
  refine wpAny_call ?_
  k_dflt (refine' enterM (binds := [(Str.ofString "type_name", .str x t)]) ?k1 ?k2 ?k3 ?k4 ?k5 ?kA ?kF ?kK ?k6 ?k7 ?k8 ?k9 ?kB ?_ ?c2 ?c3 ?c4 ?c5; (case kA => exact rfl); (case kF => exact rfl); (case kK => assumption); (case k1 => k_asm); (case k2 => k_asm); (case k3 => k_asm); (case k4 => exact N1); (case k5 => k_asm); (case k6 => k_is); (case k7 => k_is); (case k8 => ktr_room); (case k9 => exact BindsTo.of_eq rfl); (case c5 => decide); (case kB => exact locs rfl); (case c2 => exact rfl); (case c3 => exact rfl); (case c4 => exact rfl); k_whole)
  intro g L' h₁ tk₁ Kp F' N' B' X' T' l1
  (try k_lt l1)
  (try dsimp only)
  (try k_lift B')
  refine wpAny_gen (fun R0 hR0 => ?_)
  replace hret := fun r h' tk' k p => hR0 (.ok (.ret r)) _ (hret r h' tk' k p)
  clear hR0
  (try k_fold)

  k_steps
  unfold Halt
  refine PyProof.Rows.splitN1A (by assumption) (by assumption) (by decide) ?_ (Nat.le_trans (by omega) sizeLine_ge)
  intro l h' k hle hS hlen hil F2 N2
  k_steps
  unfold Halt
  refine iter_list (fun i m => (∀ j, j < i → ∀ y, (Txt.split x (Str.ofString " "))[j]? = some y → isBareF y = true) ∧ m (Str.ofString "type_name") = some (.str x t)) (by rfl) hil (N2 _ (List.Mem.head _)).2.1 F2 (news := []) News.nil (by simp) ⟨fun j hj => absurd hj (Nat.not_lt_zero j), rfl⟩ ?_ ?_
  · intro i v m₁ h tk own hv hoff hJ F1 N1'
    refine named (fun G9 hG9 => ?_)
    obtain ⟨z, tz, rfl, hz⟩ := strs_get hS (by simpa using hv)
    refine hG9 ?_
    clear hG9 G9
    have hzl : z.length ≤ 1000 := Nat.le_trans (hlen z (List.mem_of_getElem? hz)) hx
    rw [hle] at hz
    obtain ⟨hJ1, hJ2⟩ := hJ
    k_steps
    · unfold Halt
      rename Fr g L' _ _ => Fz
      rename News g L' _ _ => Nz
      refine inv_end Fz Nz ⟨?_, hJ2⟩ (by simp) (by simp)
      intro j hj y hy
      by_cases e : j = i
      · subst e
        rw [hz] at hy
        cases hy
        assumption
      · exact hJ1 j (by omega) y hy
    · rename isBareF z = false => hb
      rename Fr g L' _ _ => Fz
      have hT : writeTypeF x = writeNameF x := by
        rw [writeTypeF, if_neg]
        intro hall
        rw [List.all_eq_true] at hall
        have := hall z (List.mem_of_getElem? hz)
        rw [hb] at this
        cases this
      exact hret _ _ _ (Kp.fr Fz) ⟨_, by rw [hT]⟩
  · intro m₁ h tk hJ F1 N1'
    obtain ⟨hJ1, hJ2⟩ := hJ
    k_steps
    have hT : writeTypeF x = x := by
      rw [writeTypeF, if_pos]
      rw [List.all_eq_true]
      intro y hy
      obtain ⟨j, hj, e⟩ := List.getElem_of_mem hy
      refine hJ1 j ?_ y (by rw [List.getElem?_eq_getElem hj, e])
      have := strs_len2 hS
      rw [hle] at this
      simp only [List.size_toArray]
      omega
    exact hret _ _ _ (Kp.fr F1) ⟨_, by rw [hT]⟩
end

theorem off_G3 : True := by w_top off; trivial
section
section
variable {prog : Program} {w : World} {M : Model} {A : Around} {E : Value → Shared → Prop} {s : Shared}
theorem hex_call {b : Array UInt8} {t : Tok} {y : PySem.Str} {Q : Value → Shared → Prop} (tree : Builtin.«bytes.hex» ⟨[.bytes b t], []⟩ = (mkStr y >>= fun v => ret v)) (hy : y.length ≤ sizeLine)
    (h : ∀ t' k, Q (.str y t') { s with toks := k }) : wpAny (model prog w) A (call (.builtin "bytes.hex") [.bytes b t]) Q E s := by
  have meets : Meets (Builtin.«bytes.hex» ⟨[.bytes b t], []⟩) (fun _ R s => ∀ t' k, R (.ok (.ret (.str y t'))) { s with toks := k }) := by
    refine .of_wp fun prog w A R s hS => ?_
    rw [tree]
    exact wpAny_bind (wpAny_mkStr (wpAny_pure ⟨_, rfl, hS _ _⟩) hy)
  exact call_meets FB.slot_bytes_hex (typeIs_bytes _ _ _) FB.entry_bytes_hex (FB.args_bytes_hex_1 _) meets h
theorem hex_method {b : Array UInt8} {t : Tok} {pl : Sem Bool} {Q : Value × List Value → Shared → Prop} (h : Q (.builtin "bytes.hex", [.bytes b t]) s) : wpAny M A (getMethod (.bytes b t) (PySem.Str.ofString "hex") pl) Q E s :=
  KBd.method_of (.bytes b t) (typeIs_bytes _ _ _) FB.slot_bytes_hex FB.type_bytes_hex KBd.noRef h
end
theorem hex0 {t : Tok} : Builtin.«bytes.hex» ⟨[.bytes #[] t], []⟩ = (mkStr (Str.ofString "") >>= fun v => ret v) := by kernel_rfl
theorem hex1 {t : Tok} : Builtin.«bytes.hex» ⟨[.bytes #[0, 255, 16] t], []⟩ = (mkStr (Str.ofString "00ff10") >>= fun v => ret v) := by kernel_rfl
theorem hex2 {t : Tok} : Builtin.«bytes.hex» ⟨[.bytes #[255] t], []⟩ = (mkStr (Str.ofString "ff") >>= fun v => ret v) := by kernel_rfl
local macro_rules | `(tactic| walk_at "getMethod bytes") => `(tactic| (k_here; (with_reducible refine hex_method ?_)))
local macro_rules | `(tactic| walk_at "call builtin:bytes.hex") => `(tactic| (refine halt ?_))
theorem wv_none (w : World) (s : Shared) : Tell w 2 290 [.none] [] s (fun r _ => ∃ t', r = .str (Str.ofString "NULL") t') := by
  unfold Tell
  k_fill
  intro dp un gd cn cs fa ccd cl outer A₀ base h₀ L m mean mg mb news Q E B F X N T hk hf hd hu hret
  have N1 : News h₀ L s.heap [] := News.nil
  refine wpAny_call ?_
  k_dflt (refine' enterM (binds := [(Str.ofString "value", .none)]) ?k1 ?k2 ?k3 ?k4 ?k5 ?kA ?kF ?kK ?k6 ?k7 ?k8 ?k9 ?kB ?_ ?c2 ?c3 ?c4 ?c5; (case kA => exact rfl); (case kF => exact rfl); (case kK => assumption); (case k1 => k_asm); (case k2 => k_asm); (case k3 => k_asm); (case k4 => exact N1); (case k5 => k_asm); (case k6 => k_is); (case k7 => k_is); (case k8 => ktr_room); (case k9 => exact BindsTo.of_eq rfl); (case c5 => decide); (case kB => exact locs rfl); (case c2 => exact rfl); (case c3 => exact rfl); (case c4 => exact rfl); k_whole)
  intro g L' h₁ tk₁ Kp F' N' B' X' T' l1
  (try k_lt l1)
  (try dsimp only)
  (try k_lift B')
  refine wpAny_gen (fun R0 hR0 => ?_)
  replace hret := fun r h' tk' k p => hR0 (.ok (.ret r)) _ (hret r h' tk' k p)
  clear hR0
  (try k_fold)

  k_steps
  exact hret _ _ _ (Kp.fr (by assumption)) ⟨_, rfl⟩
theorem rep39 (x : Str) : (Txt.replace x (Str.ofString "'") (Str.ofString "''")).cps.toList = StrLaws.dbl 39 x.cps.toList := by
  have e1 : Str.ofString "'" = ⟨#[39]⟩ := by decide +kernel
  have e2 : Str.ofString "''" = ⟨#[39, 39]⟩ := by decide +kernel
  rw [e1, e2, StrLaws.replace_double]
theorem rep39_len (x : Str) : (Txt.replace x (Str.ofString "'") (Str.ofString "''")).length ≤ 2 * x.length := by
  have h := dbl_len 39 x.cps.toList
  rw [← rep39] at h
  simpa [Str.length] using h
theorem cat39 (x : Str) : Str.ofString "'" ++ Txt.replace x (Str.ofString "'") (Str.ofString "''") ++ Str.ofString "'" = quoteF 39 x := by
  have e1 : Str.ofString "'" = ⟨#[39]⟩ := by decide +kernel
  refine PySem.Str.ext' (Array.toList_inj.mp ?_)
  rw [PySem.Str.cps_append, Array.toList_append, PySem.Str.cps_append, Array.toList_append, rep39, e1]
  rfl
theorem wv_str (w : World) (s : Shared) (x : Str) (t : Tok) (hx : x.length ≤ 1000) : Tell w 2 290 [.str x t] [] s (fun r _ => ∃ t', r = .str (quoteF 39 x) t') := by
  have hl := rep39_len x
  unfold Tell
  k_fill
  intro dp un gd cn cs fa ccd cl outer A₀ base h₀ L m mean mg mb news Q E B F X N T hk hf hd hu hret
  have N1 : News h₀ L s.heap [] := News.nil
  refine wpAny_call ?_
  k_dflt (refine' enterM (binds := [(Str.ofString "value", .str x t)]) ?k1 ?k2 ?k3 ?k4 ?k5 ?kA ?kF ?kK ?k6 ?k7 ?k8 ?k9 ?kB ?_ ?c2 ?c3 ?c4 ?c5; (case kA => exact rfl); (case kF => exact rfl); (case kK => assumption); (case k1 => k_asm); (case k2 => k_asm); (case k3 => k_asm); (case k4 => exact N1); (case k5 => k_asm); (case k6 => k_is); (case k7 => k_is); (case k8 => ktr_room); (case k9 => exact BindsTo.of_eq rfl); (case c5 => decide); (case kB => exact locs rfl); (case c2 => exact rfl); (case c3 => exact rfl); (case c4 => exact rfl); k_whole)
  intro g L' h₁ tk₁ Kp F' N' B' X' T' l1
  (try k_lt l1)
  (try dsimp only)
  (try k_lift B')
  refine wpAny_gen (fun R0 hR0 => ?_)
  replace hret := fun r h' tk' k p => hR0 (.ok (.ret r)) _ (hret r h' tk' k p)
  clear hR0
  (try k_fold)

  k_steps
  exact hret _ _ _ (Kp.fr (by assumption)) ⟨_, by rw [cat39]⟩
theorem wv_int (w : World) (s : Shared) (v : Int) (t : Tok) (h1 : -2 ^ 63 ≤ v) (h2 : v < 2 ^ 63) : Tell w 2 290 [.int v t] [] s (fun r _ => ∃ t', r = .str (Str.ofString (toString v)) t') := by
  unfold Tell
  k_fill
  intro dp un gd cn cs fa ccd cl outer A₀ base h₀ L m mean mg mb news Q E B F X N T hk hf hd hu hret
  have N1 : News h₀ L s.heap [] := News.nil
  refine wpAny_call ?_
  k_dflt (refine' enterM (binds := [(Str.ofString "value", .int v t)]) ?k1 ?k2 ?k3 ?k4 ?k5 ?kA ?kF ?kK ?k6 ?k7 ?k8 ?k9 ?kB ?_ ?c2 ?c3 ?c4 ?c5; (case kA => exact rfl); (case kF => exact rfl); (case kK => assumption); (case k1 => k_asm); (case k2 => k_asm); (case k3 => k_asm); (case k4 => exact N1); (case k5 => k_asm); (case k6 => k_is); (case k7 => k_is); (case k8 => ktr_room); (case k9 => exact BindsTo.of_eq rfl); (case c5 => decide); (case kB => exact locs rfl); (case c2 => exact rfl); (case c3 => exact rfl); (case c4 => exact rfl); k_whole)
  intro g L' h₁ tk₁ Kp F' N' B' X' T' l1
  (try k_lt l1)
  (try dsimp only)
  (try k_lift B')
  refine wpAny_gen (fun R0 hR0 => ?_)
  replace hret := fun r h' tk' k p => hR0 (.ok (.ret r)) _ (hret r h' tk' k p)
  clear hR0
  (try k_fold)

  k_steps
  exact hret _ _ _ (Kp.fr (by assumption)) ⟨_, rfl⟩
theorem wv_bytes (w : World) (s : Shared) (b : Array UInt8) (t : Tok) (y z : Str) (hx : b.size ≤ 10) (tree : ∀ t, Builtin.«bytes.hex» ⟨[.bytes b t], []⟩ = (mkStr y >>= fun v => ret v)) (hy : y.length ≤ 100) (hz : Str.ofString "X'" ++ Txt.upper y ++ Str.ofString "'" = z) (hu : (Txt.upper y).length ≤ 200) :
   Tell w 2 290 [.bytes b t] [] s (fun r _ => ∃ t', r = .str z t') := by
  unfold Tell
  k_fill
  intro dp un gd cn cs fa ccd cl outer A₀ base h₀ L m mean mg mb news Q E B F X N T hk hf hd hu hret
  have N1 : News h₀ L s.heap [] := News.nil
  refine wpAny_call ?_
  k_dflt (refine' enterM (binds := [(Str.ofString "value", .bytes b t)]) ?k1 ?k2 ?k3 ?k4 ?k5 ?kA ?kF ?kK ?k6 ?k7 ?k8 ?k9 ?kB ?_ ?c2 ?c3 ?c4 ?c5; (case kA => exact rfl); (case kF => exact rfl); (case kK => assumption); (case k1 => k_asm); (case k2 => k_asm); (case k3 => k_asm); (case k4 => exact N1); (case k5 => k_asm); (case k6 => k_is); (case k7 => k_is); (case k8 => ktr_room); (case k9 => exact BindsTo.of_eq rfl); (case c5 => decide); (case kB => exact locs rfl); (case c2 => exact rfl); (case c3 => exact rfl); (case c4 => exact rfl); k_whole)
  intro g L' h₁ tk₁ Kp F' N' B' X' T' l1
  (try k_lt l1)
  (try dsimp only)
  (try k_lift B')
  refine wpAny_gen (fun R0 hR0 => ?_)
  replace hret := fun r h' tk' k p => hR0 (.ok (.ret r)) _ (hret r h' tk' k p)
  clear hR0
  (try k_fold)

  k_steps
  unfold Halt
  refine hex_call (tree _) (Nat.le_trans hy (Nat.le_trans (by omega) sizeLine_ge)) ?_
  intro t1 k1
  k_steps
  exact hret _ _ _ (Kp.fr (by assumption)) ⟨_, by rw [← hz]⟩
theorem wv_blob (w : World) (s : Shared) (b : Array UInt8) (t : Tok) (z : Str) (hb : (b = #[] ∧ z = Str.ofString "X''") ∨ (b = #[0, 255, 16] ∧ z = Str.ofString "X'00FF10'") ∨ (b = #[255] ∧ z = Str.ofString "X'FF'")) :
   Tell w 2 290 [.bytes b t] [] s (fun r _ => ∃ t', r = .str z t') := by
  rcases hb with ⟨rfl, rfl⟩ | ⟨rfl, rfl⟩ | ⟨rfl, rfl⟩
  · exact wv_bytes w s _ t (Str.ofString "") _ (by decide) (fun _ => hex0) (by decide +kernel) (by decide +kernel) (by decide +kernel)
  · exact wv_bytes w s _ t (Str.ofString "00ff10") _ (by decide) (fun _ => hex1) (by decide +kernel) (by decide +kernel) (by decide +kernel)
  · exact wv_bytes w s _ t (Str.ofString "ff") _ (by decide) (fun _ => hex2) (by decide +kernel) (by decide +kernel) (by decide +kernel)
end

theorem off_Lr : True := by w_top off; trivial
section
open PySem.SeqAt
inductive RowAt (h : Heap) (v : Value) (d : Wd) : Prop
  | mk (a : Addr) (ta tb : Tok) (x : Value) (n : Nat) (e : v = .ref a) (ho : h.get? a = some { cls := .type "tuple", data := .seq #[.str d.kd ta, .str d.tx tb, x] n }) (hv : VIs x d.val) : RowAt h v d
theorem RowAt.keeps {h h' : Heap} {v : Value} {d : Wd} (r : RowAt h v d) (k : ∀ b o, h.get? b = some o → h'.get? b = some o) : RowAt h' v d := by
  refine named (fun G9 hG9 => ?_)
  obtain ⟨a, ta, tb, x, n, e, ho, hv⟩ := r
  refine hG9 ?_
  clear hG9 G9
  exact ⟨a, ta, tb, x, n, e, k _ _ ho, hv⟩
section
variable {A : Around} {s : Shared}
theorem eqAt_bytes (b : Array UInt8) (t u : Tok) : EqAt A s (.bytes b t) (.bytes b u) true := fun prog w E Q hq => by
  unfold eqBool
  refine wpAny_holding ?_
  refine wpAny_ite_split (fun _ => wpAny_bind (wpAny_rule (wpAny_pure hq))) fun _ => ?_
  exact wpAny_bind (eq_bytes (by rw [beq_self_eq_true]; exact wpAny_truthy_bool hq))
theorem all_true {α : Type} (l : List α) : (l.all fun _ => true) = true := by rw [List.all_eq_true]; intro _ _; rfl
theorem eqAt_vis {v v' : Value} {w : Wv} (h : VIs v w) (h' : VIs v' w) : EqAt A s v v' true := by
  cases h with
  | none => cases h'; exact EqAt.same _
  | str x t => cases h' with | str _ u => have := EqAt.str_str (A := A) (s := s) x t x u; simpa using this
  | int i t => cases h' with | int _ u => have := EqAt.int_int (A := A) (s := s) i t i u; simpa using this
  | bytes b t => cases h' with | bytes _ u => exact eqAt_bytes b t u
theorem eqAt_row {v v' : Value} {d : Wd} (h : RowAt s.heap v d) (h' : RowAt s.heap v' d) (hu : A.units < cLine) : EqAt A s v v' true := by
  refine named (fun G9 hG9 => ?_)
  obtain ⟨a, ta, tb, x, n, rfl, ho, hv⟩ := h
  refine hG9 ?_
  clear hG9 G9
  refine named (fun G9 hG9 => ?_)
  obtain ⟨b, tc, td, y, m, rfl, ho', hv'⟩ := h'
  refine hG9 ?_
  clear hG9 G9
  by_cases hab : a = b
  · subst hab; exact EqAt.same _
  · have := RcAt.tuples (A := A) (e := fun _ => true) (⟨_, ho, rfl, _, rfl⟩ : s.heap.IsTuple a _) (⟨_, ho', rfl, _, rfl⟩ : s.heap.IsTuple b _) hu (fun j h1 h2 => ?_)
    · rw [all_true] at this
      exact EqAt.of_refs hab this
    · have hj : j < 3 := h1
      rcases (by omega : j = 0 ∨ j = 1 ∨ j = 2) with rfl | rfl | rfl
      · have := EqAt.str_str (A := A.in1) (s := s) d.kd ta d.kd tc; simpa using this
      · have := EqAt.str_str (A := A.in1) (s := s) d.tx tb d.tx td; simpa using this
      · exact eqAt_vis hv hv'
end
inductive RowsAt (h : Heap) : List Value → List Wd → Prop
  | nil : RowsAt h [] []
  | cons {v : Value} {d : Wd} {vs : List Value} {ds : List Wd} (a : RowAt h v d) (b : RowsAt h vs ds) : RowsAt h (v :: vs) (d :: ds)
theorem RowsAt.len {h : Heap} {vs : List Value} {ds : List Wd} (r : RowsAt h vs ds) : vs.length = ds.length := by
  induction r with
  | nil => rfl
  | cons _ _ ih => simp [ih]
theorem RowsAt.get {h : Heap} {vs : List Value} {ds : List Wd} (r : RowsAt h vs ds) : ∀ j (h1 : j < vs.length) (h2 : j < ds.length), RowAt h vs[j] ds[j] := by
  induction r with
  | nil => intro j h1; exact absurd h1 (Nat.not_lt_zero j)
  | cons a b ih =>
    intro j h1 h2
    cases j with
    | zero => exact a
    | succ j => exact ih j (by simpa using h1) (by simpa using h2)
theorem rows_eq {prog : Program} {w : World} {A : Around} {E : Value → Shared → Prop} {s : Shared} {l b : Addr} {vs vs' : List Value} {ds : List Wd} {Q : Value → Shared → Prop} (hl : s.heap.IsList l vs.toArray) (hb : s.heap.IsList b vs'.toArray) (r : RowsAt s.heap vs ds) (r' : RowsAt s.heap vs' ds) (hu : A.units + 1 < cLine) (h : Q (.bool true) s) : wpAny (model prog w) A (compareOp .Eq (.ref l) (.ref b)) Q E s := by
  have e1 := r.len
  have e2 := r'.len
  refine eq_listAt (e := fun _ => true) hl hb (by simp [e1, e2]) (by omega) (fun j h1 h2 => ?_) ?_
  · have k1 : j < vs.length := by simpa using h1
    have k2 : j < vs'.length := by simpa using h2
    have := eqAt_row (A := A.in1) (r.get j k1 (by omega)) (r'.get j k2 (by omega)) (by show A.units + 1 < cLine; exact hu)
    simpa using this
  · rw [all_true]
    exact h
inductive RowIn (nw : List (Addr × Obj)) (v : Value) (d : Wd) : Prop
  | mk (a : Addr) (ta tb : Tok) (x : Value) (n : Nat) (e : v = .ref a) (ho : (a, ({ cls := .type "tuple", data := .seq #[.str d.kd ta, .str d.tx tb, x] n } : Obj)) ∈ nw) (hv : VIs x d.val) : RowIn nw v d
inductive RowsIn (nw : List (Addr × Obj)) : List Value → List Wd → Prop
  | nil : RowsIn nw [] []
  | cons {v : Value} {d : Wd} {vs : List Value} {ds : List Wd} (a : RowIn nw v d) (b : RowsIn nw vs ds) : RowsIn nw (v :: vs) (d :: ds)
theorem RowsIn.mono {nw nw' : List (Addr × Obj)} {vs : List Value} {ds : List Wd} (h : ∀ q ∈ nw, q ∈ nw') (r : RowsIn nw vs ds) : RowsIn nw' vs ds := by
  induction r with
  | nil => exact .nil
  | cons a _ ih =>
    refine named (fun G9 hG9 => ?_)
    obtain ⟨a, ta, tb, x, n, e, ho, hv⟩ := a
    refine hG9 ?_
    clear hG9 G9
    exact .cons ⟨a, ta, tb, x, n, e, h _ ho, hv⟩ ih
theorem RowsIn.snoc {nw : List (Addr × Obj)} {vs : List Value} {ds : List Wd} {v : Value} {d : Wd} (r : RowsIn nw vs ds) (a : RowIn nw v d) : RowsIn nw (vs ++ [v]) (ds ++ [d]) := by
  induction r with
  | nil => exact .cons a .nil
  | cons b _ ih => exact .cons b ih
theorem RowsIn.at {g h : Heap} {L : Addr} {nw all : List (Addr × Obj)} {vs : List Value} {ds : List Wd} (N : News g L h all) (hs : ∀ q ∈ nw, q ∈ all) (r : RowsIn nw vs ds) : RowsAt h vs ds := by
  induction r with
  | nil => exact .nil
  | cons a _ ih =>
    refine named (fun G9 hG9 => ?_)
    obtain ⟨a, ta, tb, x, n, e, ho, hv⟩ := a
    refine hG9 ?_
    clear hG9 G9
    exact .cons ⟨a, ta, tb, x, n, e, N.get (hs _ ho), hv⟩ ih
end

theorem off_Q1 : True := by w_top off; trivial
section
theorem at_of_drop {x : Str} {p c : Nat} {r : List Nat} (h : x.cps.toList.drop p = c :: r) : x.cps[p]? = some c := by
  have := congrArg List.head? h
  simpa using this
theorem drop_next {x : Str} {p c : Nat} {r : List Nat} (h : x.cps.toList.drop p = c :: r) : x.cps.toList.drop (p + 1) = r := by
  rw [← List.drop_drop, h]; rfl
theorem lex_len {x : Str} {p : Nat} {a r : List Nat} (h : x.cps.toList.drop p = a ++ r) (hne : a ≠ []) : p + a.length ≤ x.length := by
  have := len_of_drop h (by simp [hne])
  simp only [List.length_append] at this
  omega
theorem lex_blank {tx : Str} {p c : Nat} {post : List Nat} {ds : List Wd} (h : tx.cps.toList.drop p = c :: post) (hc : cls c = 0) (r : Lex tx (p + 1) ds) : Lex tx p ds :=
  Lex.step (od := []) (at_of_drop h) (Turn.blank hc) (Nat.lt_succ_self _) (by have := lex_len (a := [c]) h (by simp); simpa using this) r
theorem take2_head {c : Nat} {r : List Nat} {y : Str} (h : (⟨((c :: r).take 2).toArray⟩ : Str) = y) : y.cps.toList.headD 0 = c := by
  subst h; simp
theorem lex_sign {tx : Str} {p c : Nat} {post : List Nat} {ds : List Wd} (h : tx.cps.toList.drop p = c :: post) (hc : c = 40 ∨ c = 41 ∨ c = 44) (r : Lex tx (p + 1) ds) : Lex tx p (⟨Str.ofString "sign", ⟨#[c]⟩, .none⟩ :: ds) := by
  have key : ∀ y ∈ Str.ofString "--" :: Str.ofString "/*" :: twoL, y.cps.toList.headD 0 ≠ 40 ∧ y.cps.toList.headD 0 ≠ 41 ∧ y.cps.toList.headD 0 ≠ 44 := by decide +kernel
  have ne : ∀ y ∈ Str.ofString "--" :: Str.ofString "/*" :: twoL, ((⟨((tx.cps.toList.drop p).take 2).toArray⟩ : Str) == y) = false := by
    intro y hy
    rw [beq_eq_false_iff_ne]
    intro e
    rw [h] at e
    have := take2_head e
    obtain ⟨k1, k2, k3⟩ := key y hy
    rcases hc with rfl | rfl | rfl
    · exact k1 this
    · exact k2 this
    · exact k3 this
  have hcls : cls c = 4 := by rcases hc with rfl | rfl | rfl <;> decide +kernel
  have hin : c ∈ (Str.ofString "(),.;+-*/%=<>&|~").cps.toList := by rcases hc with rfl | rfl | rfl <;> decide +kernel
  refine Lex.step (od := [_]) (at_of_drop h) (Turn.mark _ hcls rfl (ne _ (List.Mem.head _)) (ne _ (List.Mem.tail _ (List.Mem.head _))) ?_ hin) (Nat.lt_succ_self _) (by have := lex_len (a := [c]) h (by simp); simpa using this) r
  rw [List.any_eq_false]
  intro y hy
  have := ne y (List.Mem.tail _ (List.Mem.tail _ hy))
  rw [beq_eq_false_iff_ne] at this
  simpa using fun e => this e.symm
theorem bare_parts {y : Str} (hb : isBareF y = true) : ∃ c r, y.cps.toList = c :: r ∧ beginsC c = true ∧ (∀ d ∈ r, goesC d = true) := by
  unfold isBareF at hb
  simp only [Bool.and_eq_true] at hb
  refine named (fun G9 hG9 => ?_)
  obtain ⟨⟨⟨⟨⟨h1, h2⟩, _⟩, _⟩, _⟩, h6⟩ := hb
  refine hG9 ?_
  clear hG9 G9
  cases hy : y.cps.toList with
  | nil =>
    exfalso
    have : y = Str.ofString "" := Str.ext' (by rw [← Array.toList_inj, hy]; decide +kernel)
    rw [this] at h1
    exact absurd h1 (by decide +kernel)
  | cons c r =>
    refine ⟨c, r, rfl, ?_, ?_⟩
    · have hc : y.cps[0]? = some c := at_of_drop (p := 0) (r := r) (by rw [List.drop_zero]; exact hy)
      have e := item_nat hc
      rw [show ((0 : Nat) : Int) = 0 by rfl] at e
      rw [e] at h2
      exact h2
    · rw [hy, List.all_cons, Bool.and_eq_true, List.all_eq_true] at h6
      exact h6.2
theorem takeWhile_app {f : Nat → Bool} : ∀ {a b : List Nat}, (∀ d ∈ a, f d = true) → (∀ c, b.head? = some c → f c = false) → (a ++ b).takeWhile f = a
  | [], [], _, _ => rfl
  | [], c :: b, _, hb => by simp [List.takeWhile_cons, hb c rfl]
  | d :: a, b, ha, hb => by
    rw [List.cons_append, List.takeWhile_cons, ha d (List.Mem.head _), takeWhile_app (fun e he => ha e (List.Mem.tail _ he)) hb]
    rfl
theorem begins_cls {c : Nat} (h : beginsC c = true) : cls c = 1 := by
  refine cls1 ?_ h
  intro hb
  have key : ∀ d ∈ blanksL, beginsC d = false := by decide +kernel
  rw [key c hb] at h
  cases h
theorem wordOf_bare {y : Str} (hb : isBareF y = true) : wordOf y = ⟨Str.ofString "name", foldedF y, .str y⟩ := by unfold wordOf; rw [if_pos hb]
theorem wordOf_not {y : Str} (hb : isBareF y = false) : wordOf y = ⟨Str.ofString "name", Str.ofString "", .str y⟩ := by unfold wordOf; rw [if_neg (by simp [hb])]
theorem lex_bareS {tx y : Str} {p c : Nat} {r post : List Nat} {ds : List Wd} (h : tx.cps.toList.drop p = y.cps.toList ++ post) (hy : y.cps.toList = c :: r) (hc : beginsC c = true) (hr : ∀ d ∈ r, goesC d = true) (hp : ∀ c, post.head? = some c → goesC c = false ∧ c ≠ 39) (hl : y.length ≤ 1000) (k : Lex tx (p + y.length) ds) :
    Lex tx p (⟨Str.ofString "name", foldedF y, .str y⟩ :: ds) := by
  have hyl : y.length = (c :: r).length := by rw [← hy]; simp [Str.length]
  rw [hy] at h
  have h1 := drop_next (c := c) (r := r ++ post) h
  have hg39 : goesC 39 = false := by decide +kernel
  refine Lex.step (od := [_]) (at_of_drop (r := r ++ post) h) (Turn.bare y (begins_cls hc) ?_ ?_ hl) (by rw [hyl]; simp) (by rw [hyl]; exact lex_len (a := c :: r) h (by simp)) k
  · intro _ e
    cases r with
    | cons d r =>
      have := at_of_drop (c := d) (r := r ++ post) h1
      rw [this] at e
      have h2 := hr d (List.Mem.head _)
      rw [Option.some.inj e, hg39] at h2
      cases h2
    | nil =>
      cases post with
      | nil =>
        have := congrArg List.length h1
        simp only [List.length_drop, List.nil_append, List.length_nil] at this
        rw [Array.getElem?_eq_none (by simp at this; omega)] at e
        cases e
      | cons d post =>
        have := at_of_drop (c := d) (r := post) h1
        rw [this] at e
        exact (hp d rfl).2 (Option.some.inj e)
  · refine Str.ext' ?_
    rw [← Array.toList_inj, hy, h1, takeWhile_app hr fun d hd => (hp d hd).1]
theorem lex_quoted {tx : Str} {p q : Nat} {body post : List Nat} {ds : List Wd} (hq : q = 34 ∨ q = 39) (h : tx.cps.toList.drop p = q :: (StrLaws.dbl q body ++ q :: post)) (hp : post.head? ≠ some q) (k : Lex tx (p + 1 + (StrLaws.dbl q body).length + 1) ds) :
    Lex tx p (⟨if q = 39 then Str.ofString "text" else Str.ofString "name", Str.ofString "", .str ⟨body.toArray⟩⟩ :: ds) := by
  have hcls : cls q = 3 := by rcases hq with rfl | rfl <;> decide +kernel
  refine Lex.step (od := [_]) (at_of_drop h) (Turn.quoted body post hcls hq (drop_next h) hp) (by omega) ?_ k
  have := lex_len (a := q :: (StrLaws.dbl q body ++ [q])) (r := post) (by rw [h]; simp) (by simp)
  simp only [List.length_cons, List.length_append, List.length_nil] at this
  omega
theorem lex_name {tx x : Str} {p : Nat} {post : List Nat} {ds : List Wd} (h : tx.cps.toList.drop p = (writeNameF x).cps.toList ++ post) (hp : ∀ c, post.head? = some c → goesC c = false ∧ c ≠ 39 ∧ c ≠ 34) (hl : x.length ≤ 1000) (k : Lex tx (p + (writeNameF x).length) ds) :
    Lex tx p (wordOf x :: ds) := by
  cases hb : isBareF x with
  | true =>
    have e : writeNameF x = x := by unfold writeNameF; rw [if_pos hb]
    rw [e] at h k
    refine named (fun G9 hG9 => ?_)
    obtain ⟨c, r, hy, hc, hr⟩ := bare_parts hb
    refine hG9 ?_
    clear hG9 G9
    rw [wordOf_bare hb]
    exact lex_bareS h hy hc hr (fun c e => ⟨(hp c e).1, (hp c e).2.1⟩) hl k
  | false =>
    have e : writeNameF x = quoteF 34 x := by unfold writeNameF; rw [if_neg (by simp [hb])]
    rw [e] at h k
    have el : (quoteF 34 x).length = 1 + (StrLaws.dbl 34 x.cps.toList).length + 1 := by unfold quoteF; simp [Str.length]; omega
    rw [wordOf_not hb]
    have := lex_quoted (tx := tx) (p := p) (q := 34) (body := x.cps.toList) (post := post) (ds := ds) (.inl rfl) (by rw [h]; unfold quoteF; simp) (fun e => (hp 34 e).2.2 rfl) (by rw [el] at k; rw [show p + 1 + (StrLaws.dbl 34 x.cps.toList).length + 1 = p + (1 + (StrLaws.dbl 34 x.cps.toList).length + 1) by omega]; exact k)
    simpa using this
theorem lex_end {tx : Str} {p : Nat} (h : tx.cps.toList.drop p = []) (hp : p ≤ tx.length) : Lex tx p [] := by
  refine Lex.done ?_
  have := congrArg List.length h
  simp only [List.length_drop, List.length_nil] at this
  have h2 : tx.cps.toList.length = tx.length := by simp [Str.length]
  omega
theorem lex_one (x : Str) (hl : x.length ≤ 1000) : Lex (writeNameF x) 0 [wordOf x] := by
  refine lex_name (post := []) (by simp) (by simp) hl ?_
  refine lex_end ?_ (by omega)
  rw [Nat.zero_add, List.drop_eq_nil_of_le]
  simp [Str.length]
end

theorem off_Q2 : True := by w_top off; trivial
section
theorem join_codes (sep y : Str) : ∀ ys : List Str, (Txt.join sep (y :: ys)).cps.toList = y.cps.toList ++ (ys.map fun z => sep.cps.toList ++ z.cps.toList).flatten := by
  intro ys
  show (Builtin.Str.glued sep (y :: ys)).cps.toList = _
  rw [StrLaws.glued_eq_join]
  induction ys generalizing y with
  | nil => simp [Str.join]
  | cons z r ih =>
    show (y ++ sep ++ Str.join sep (z :: r)).cps.toList = _
    simp only [PySem.Str.cps_append, Array.toList_append, ih, List.map_cons, List.flatten_cons, List.append_assoc]
noncomputable def rest2 : List Str → List Nat
  | [] => [41, 120]
  | n :: r => 44 :: 32 :: ((writeNameF n).cps.toList ++ rest2 r)
noncomputable def rest3 : List Str → List Nat
  | [] => [32, 78, 79, 84]
  | n :: r => 32 :: ((writeNameF n).cps.toList ++ rest3 r)
theorem rest2_eq (ns : List Str) : ((ns.map writeNameF).map fun z => (Str.ofString ", ").cps.toList ++ z.cps.toList).flatten ++ [41, 120] = rest2 ns := by
  have e : (Str.ofString ", ").cps.toList = [44, 32] := by decide +kernel
  induction ns with
  | nil => rfl
  | cons n r ih =>
    simp only [List.map_cons, List.flatten_cons, List.append_assoc]
    rw [ih, e]
    rfl
theorem rest3_eq (ns : List Str) : ((ns.map writeNameF).map fun z => (Str.ofString " ").cps.toList ++ z.cps.toList).flatten ++ [32, 78, 79, 84] = rest3 ns := by
  have e : (Str.ofString " ").cps.toList = [32] := by decide +kernel
  induction ns with
  | nil => rfl
  | cons n r ih =>
    simp only [List.map_cons, List.flatten_cons, List.append_assoc]
    rw [ih, e]
    rfl
noncomputable def xW : Wd := ⟨Str.ofString "name", foldedF (Str.ofString "x"), .str (Str.ofString "x")⟩
noncomputable def notW : Wd := ⟨Str.ofString "name", foldedF (Str.ofString "NOT"), .str (Str.ofString "NOT")⟩
theorem sgn_code (c : Nat) (y : String) (h : Str.ofString y = ⟨#[c]⟩) : sgn y = ⟨Str.ofString "sign", ⟨#[c]⟩, .none⟩ := by unfold sgn; rw [h]
theorem head2 (ns : List Str) : ∀ c, (rest2 ns).head? = some c → goesC c = false ∧ c ≠ 39 ∧ c ≠ 34 := by
  have k : ∀ c : Nat, c = 41 ∨ c = 44 → goesC c = false ∧ c ≠ 39 ∧ c ≠ 34 := by
    rintro c (rfl | rfl)
    · decide +kernel
    · decide +kernel
  intro c hc
  cases ns with
  | nil => exact k c (.inl (Option.some.inj hc).symm)
  | cons n r => exact k c (.inr (Option.some.inj hc).symm)
theorem head3 (ns : List Str) : ∀ c, (rest3 ns).head? = some c → goesC c = false ∧ c ≠ 39 ∧ c ≠ 34 := by
  have k : goesC 32 = false ∧ 32 ≠ 39 ∧ 32 ≠ 34 := by decide +kernel
  intro c hc
  cases ns with
  | nil => cases (Option.some.inj hc); exact k
  | cons n r => cases (Option.some.inj hc); exact k
theorem lexW (tx y : Str) (p : Nat) (hy : y = Str.ofString "x" ∨ y = Str.ofString "NOT" ∨ y = Str.ofString "NULL") (h : tx.cps.toList.drop p = y.cps.toList) : Lex tx p [⟨Str.ofString "name", foldedF y, .str y⟩] := by
  have key : ∀ z ∈ [Str.ofString "x", Str.ofString "NOT", Str.ofString "NULL"], beginsC (z.cps.toList.headD 0) = true ∧ (z.cps.toList.tail.all goesC) = true ∧ z.cps.toList ≠ [] ∧ z.length ≤ 1000 := by decide +kernel
  refine named (fun G9 hG9 => ?_)
  obtain ⟨k1, k2, k3, k4⟩ := key y (by rcases hy with rfl | rfl | rfl <;> simp)
  refine hG9 ?_
  clear hG9 G9
  cases hc : y.cps.toList with
  | nil => exact absurd hc k3
  | cons c r =>
    rw [hc] at k1 k2
    refine lex_bareS (c := c) (r := r) (post := []) (by rw [List.append_nil]; exact h) hc k1 (List.all_eq_true.mp k2) (by simp) k4 (lex_end ?_ ?_)
    · have := drop_more (x := tx) (b := p) (pre := y.cps.toList) (rest := []) (by rw [List.append_nil]; exact h)
      simpa [Str.length] using this
    · have := lex_len (x := tx) (p := p) (a := y.cps.toList) (r := []) (by rw [List.append_nil]; exact h) k3
      simpa [Str.length] using this
theorem str_len (x : Str) : x.cps.toList.length = x.length := by simp [Str.length]
theorem lex_after (tx : Str) : ∀ (ns : List Str) (p : Nat), (∀ n ∈ ns, n.length ≤ 1000) → tx.cps.toList.drop p = rest2 ns → Lex tx p (after ns ++ [xW])
  | [], p, _, h => by
    show Lex tx p (sgn ")" :: [xW])
    rw [sgn_code 41 ")" (by decide +kernel)]
    exact lex_sign (post := [120]) h (.inr (.inl rfl)) (lexW tx _ _ (.inl rfl) (by rw [drop_next (c := 41) (r := [120]) h]; decide +kernel))
  | n :: r, p, hl, h => by
    show Lex tx p (sgn "," :: wordOf n :: (after r ++ [xW]))
    rw [sgn_code 44 "," (by decide +kernel)]
    have h1 := drop_next (c := 44) h
    have h2 := drop_next (c := 32) h1
    refine lex_sign h (.inr (.inr rfl)) (lex_blank h1 (by decide +kernel) (lex_name h2 (head2 r) (hl n (List.Mem.head _)) (lex_after tx r _ (fun m hm => hl m (List.Mem.tail _ hm)) ?_)))
    have := drop_more h2
    rwa [str_len] at this
theorem lex_names (n : Str) (ns : List Str) (hl : ∀ m ∈ n :: ns, m.length ≤ 1000) : Lex (writeNamesF (n :: ns) ++ Str.ofString "x") 0 (sgn "(" :: wordOf n :: (after ns ++ [xW])) := by
  have e1 : (Str.ofString "(").cps.toList = [40] := by decide +kernel
  have e2 : (Str.ofString ")").cps.toList = [41] := by decide +kernel
  have e3 : (Str.ofString "x").cps.toList = [120] := by decide +kernel
  have e : (writeNamesF (n :: ns) ++ Str.ofString "x").cps.toList = 40 :: ((writeNameF n).cps.toList ++ rest2 ns) := by
    unfold writeNamesF
    rw [← rest2_eq]
    simp only [PySem.Str.cps_append, Array.toList_append, List.map_cons, join_codes, e1, e2, e3]
    simp
  generalize writeNamesF (n :: ns) ++ Str.ofString "x" = tx at *
  rw [sgn_code 40 "(" (by decide +kernel)]
  have h0 : tx.cps.toList.drop 0 = 40 :: ((writeNameF n).cps.toList ++ rest2 ns) := by rw [List.drop_zero, e]
  have h1 := drop_next h0
  refine lex_sign h0 (.inl rfl) (lex_name h1 (head2 ns) (hl n (List.Mem.head _)) (lex_after tx ns _ (fun m hm => hl m (List.Mem.tail _ hm)) ?_))
  have := drop_more h1
  rwa [str_len] at this
theorem lex_types (tx : Str) : ∀ (ns : List Str) (p : Nat), (∀ n ∈ ns, n.length ≤ 1000) → tx.cps.toList.drop p = rest3 ns → Lex tx p (ns.map wordOf ++ [notW])
  | [], p, _, h => lex_blank (post := [78, 79, 84]) h (by decide +kernel) (lexW tx _ _ (.inr (.inl rfl)) (by rw [drop_next (c := 32) (r := [78, 79, 84]) h]; decide +kernel))
  | n :: r, p, hl, h => by
    have h1 := drop_next (c := 32) h
    refine lex_blank h (by decide +kernel) (lex_name h1 (head3 r) (hl n (List.Mem.head _)) (lex_types tx r _ (fun m hm => hl m (List.Mem.tail _ hm)) ?_))
    have := drop_more h1
    rwa [str_len] at this
theorem lex_type (n : Str) (ns : List Str) (hl : ∀ m ∈ n :: ns, m.length ≤ 1000) : Lex (Txt.join (Str.ofString " ") ((n :: ns).map writeNameF) ++ Str.ofString " NOT") 0 ((n :: ns).map wordOf ++ [notW]) := by
  have e3 : (Str.ofString " NOT").cps.toList = [32, 78, 79, 84] := by decide +kernel
  have e : (Txt.join (Str.ofString " ") ((n :: ns).map writeNameF) ++ Str.ofString " NOT").cps.toList = (writeNameF n).cps.toList ++ rest3 ns := by
    rw [← rest3_eq]
    simp only [PySem.Str.cps_append, Array.toList_append, List.map_cons, join_codes, e3]
    simp
  generalize Txt.join (Str.ofString " ") ((n :: ns).map writeNameF) ++ Str.ofString " NOT" = tx at *
  have h0 : tx.cps.toList.drop 0 = (writeNameF n).cps.toList ++ rest3 ns := by rw [List.drop_zero, e]
  refine lex_name h0 (head3 ns) (hl n (List.Mem.head _)) (lex_types tx ns _ (fun m hm => hl m (List.Mem.tail _ hm)) ?_)
  have := drop_more h0
  rwa [str_len] at this
theorem not_key : isKeyF notW (Str.ofString "NOT") = true := by decide +kernel
theorem not_plain : isPlainF notW = false := by decide +kernel
theorem not_paren : isSignF notW (Str.ofString "(") = false := by decide +kernel
/-- a type's text is its words (or the whole, quoted), a blank between each two -/
theorem type_words (x : Str) (hx : x.length ≤ 90) : ∃ n ns, writeTypeF x = Txt.join (Str.ofString " ") ((n :: ns).map writeNameF) ∧ Txt.join (Str.ofString " ") (n :: ns) = x ∧ (n :: ns).length ≤ 100 ∧ ∀ y ∈ n :: ns, y.length ≤ 1000 := by
  have one : ∀ y : Str, Txt.join (Str.ofString " ") [y] = y := fun y => by
    refine Str.ext' (Array.toList_inj.mp ?_)
    rw [join_codes]; simp
  unfold writeTypeF
  split
  · rename_i hall
    have hj : Txt.join (Str.ofString " ") (Txt.split x (Str.ofString " ")) = x := by
      show Builtin.Str.glued _ _ = _
      rw [StrLaws.glued_eq_join, StrLaws.join_split]
    have hlen : (Txt.split x (Str.ofString " ")).length ≤ 100 := by
      have e1 : (Str.ofString " ").length = 1 := by decide +kernel
      unfold Txt.split
      split
      · simp
      · split
        · simp
        · have := StrLaws.occ_length_le x (Str.ofString " ") 0 x.length (x.length + 1)
          rw [length_partsBetween]
          omega
    have hsh : ∀ y ∈ Txt.split x (Str.ofString " "), y.length ≤ 1000 := fun y hy => Nat.le_trans (part_short hy) (by omega)
    have hmap : (Txt.split x (Str.ofString " ")).map writeNameF = Txt.split x (Str.ofString " ") := by
      rw [List.all_eq_true] at hall
      conv => rhs; rw [← List.map_id (Txt.split x (Str.ofString " "))]
      refine List.map_congr_left fun y hy => ?_
      unfold writeNameF
      rw [if_pos (hall y hy)]
      rfl
    have hne : Txt.split x (Str.ofString " ") ≠ [] := by
      unfold Txt.split
      split
      · simp
      · split
        · simp
        · intro e
          have := congrArg List.length e
          rw [length_partsBetween] at this
          simp at this
    cases hc : Txt.split x (Str.ofString " ") with
    | nil => exact absurd hc hne
    | cons n ns =>
      rw [hc] at hj hlen hsh hmap
      exact ⟨n, ns, by rw [hmap, hj], hj, hlen, hsh⟩
  · refine ⟨x, [], by rw [List.map_cons, List.map_nil, one], one x, by simp, ?_⟩
    intro y hy
    cases List.mem_singleton.mp hy
    omega
theorem vals_words (ns : List Str) : ValsAre (ns.map wordOf) ns := by
  unfold ValsAre
  rw [List.map_map]
  exact List.map_congr_left fun n _ => wordOf_val n
end

theorem off_G4 : True := by w_top off; trivial
local macro_rules | `(tactic| walk_at "subscriptTail Name Constant ref int") => `(tactic| walk_at "subscriptTail")
section
local macro_rules | `(tactic| walk_at "exec For") => `(tactic| (refine halt ?_))
local macro_rules | `(tactic| walk_at "pyIter str") => `(tactic| (refine halt ?_))
local macro_rules | `(tactic| walk_at "InvEndN") => `(tactic| (refine halt ?_))
local macro_rules | `(tactic| walk_at "eval Name") => `(tactic| (k_here; k_dflt (refine' ld ?k1 ?k2 ?_; (case k1 => k_asm); (case k2 => assumption); k_whole)))
local macro_rules | `(tactic| walk_at "call ref") => `(tactic| (k_here; first | with_reducible refine halt_at 263 ?_))
local macro_rules | `(tactic| walk_at "my mem3") => `(tactic| (first | exact List.Mem.head _ | exact List.Mem.tail _ (List.Mem.head _) | exact List.Mem.tail _ (List.Mem.tail _ (List.Mem.head _)) | exact List.Mem.tail _ (List.Mem.tail _ (List.Mem.tail _ (List.Mem.head _)))))
local macro_rules | `(tactic| walk_at "call ref") => `(tactic| (k_here; first | with_reducible refine halt_at 137 ?_))
local macro_rules | `(tactic| walk_at "exec If") => `(tactic| (refine halt ?_))
inductive Went (s : Shared) (g : Heap) (L : Addr) (m : Str → Option Value) (nw : List (Addr × Obj)) : Flow → Shared → Prop
  | mk (h' : Heap) (tk' : Nat) (F : Fr g L h' m) (N : News g L h' nw) : Went s g L m nw .next { s with heap := h', toks := tk' }
/-- a statement that only goes on: its ways meet behind it -/
theorem cut_stmt {M : Model} {A : Around} {c : Sem Flow} {Q : Flow → Shared → Prop} {E : Value → Shared → Prop} {s : Shared} {g : Heap} {L : Addr} {m : Str → Option Value} {nw : List (Addr × Obj)}
    (h1 : wpAny M A c (Went s g L m nw) E s) (h2 : ∀ h' tk', Fr g L h' m → News g L h' nw → Q .next { s with heap := h', toks := tk' }) : wpAny M A c Q E s :=
  wpAny_mono h1 (fun f s' x => by
    cases x with
    | mk h' tk' F N => exact h2 h' tk' F N) fun _ _ e => e
theorem made_led {g h h' : Heap} {L : Addr} {m : Str → Option Value} {made : List (Addr × Obj)} (F : Fr g L h m) (M : Made h h' made) : News g L h' made := fun q hq => by
  refine ⟨(M q hq).1, fun e => ?_, ?_⟩
  · obtain ⟨oL, es, ep, hL, _⟩ := F.ns
    have hn := (M q hq).2
    have e' : q.1 = L := e
    rw [e', hL] at hn; cases hn
  · cases e : g.get? q.1 with
    | none => rfl
    | some o => have hn := (M q hq).2; rw [F.keep _ _ e] at hn; cases hn
noncomputable def dblT (x : Str) (i : Nat) : Str := ⟨(34 :: StrLaws.dbl 34 (x.cps.toList.take i)).toArray⟩
theorem dblT_len (x : Str) (i : Nat) (hx : x.length ≤ 100) : (dblT x i).length ≤ 300 := by
  have h1 := dbl_len 34 (x.cps.toList.take i)
  have h2 : (x.cps.toList.take i).length ≤ x.length := by
    rw [List.length_take]
    have h3 : x.cps.toList.length = x.length := by simp [Str.length]
    omega
  have h4 : (dblT x i).length = (StrLaws.dbl 34 (x.cps.toList.take i)).length + 1 := by unfold dblT; simp [Str.length]
  omega
theorem mul_two (c : Nat) : Txt.mul (⟨#[c]⟩ : Str) 2 = ⟨#[c, c]⟩ := rfl
theorem dblT_all (x : Str) : dblT x x.cps.size ++ Str.ofString "\"" = quoteF 34 x := by
  have e1 : Str.ofString "\"" = ⟨#[34]⟩ := by decide +kernel
  have e2 : x.cps.toList.take x.cps.size = x.cps.toList := List.take_of_length_le (by simp)
  refine Str.ext' (Array.toList_inj.mp ?_)
  unfold dblT
  rw [PySem.Str.cps_append, Array.toList_append, e1, e2]
  rfl
theorem take_snoc {x : Str} {i c : Nat} (hc : x.cps[i]? = some c) : x.cps.toList.take (i + 1) = x.cps.toList.take i ++ [c] := by
  rw [List.take_add_one]
  have : x.cps.toList[i]? = some c := by simpa using hc
  rw [this]; rfl
theorem dbl_app (q : Nat) : ∀ a b : List Nat, StrLaws.dbl q (a ++ b) = StrLaws.dbl q a ++ StrLaws.dbl q b
  | [], b => rfl
  | c :: a, b => by
    show (if c = q then c :: c :: StrLaws.dbl q (a ++ b) else c :: StrLaws.dbl q (a ++ b)) = (if c = q then c :: c :: StrLaws.dbl q a else c :: StrLaws.dbl q a) ++ StrLaws.dbl q b
    rw [dbl_app q a b]
    split <;> rfl
theorem dblT_yes {x : Str} {i c : Nat} (hc : x.cps[i]? = some c) (h : ((⟨#[c]⟩ : Str) == Str.ofString "\"") = true) : dblT x i ++ Txt.mul (⟨#[c]⟩ : Str) 2 = dblT x (i + 1) := by
  have e1 : Str.ofString "\"" = ⟨#[34]⟩ := by decide +kernel
  have hc34 : c = 34 := by
    rw [e1] at h
    simpa using h
  subst hc34
  refine Str.ext' (Array.toList_inj.mp ?_)
  unfold dblT
  rw [PySem.Str.cps_append, Array.toList_append, take_snoc hc, dbl_app, mul_two]
  simp [StrLaws.dbl]
theorem dblT_no {x : Str} {i c : Nat} (hc : x.cps[i]? = some c) (h : ((⟨#[c]⟩ : Str) == Str.ofString "\"") = false) : dblT x i ++ (⟨#[c]⟩ : Str) = dblT x (i + 1) := by
  have e1 : Str.ofString "\"" = ⟨#[34]⟩ := by decide +kernel
  have hc34 : c ≠ 34 := by
    rw [e1] at h
    simpa using h
  refine Str.ext' (Array.toList_inj.mp ?_)
  unfold dblT
  rw [PySem.Str.cps_append, Array.toList_append, take_snoc hc, dbl_app]
  simp [StrLaws.dbl, hc34]
theorem words_two {made : List (Addr × Obj)} {its : Array Value} {d0 d1 : Wd} (W : WordsIn made its.toList [d0, d1]) : ∃ v0 v1, its = #[v0, v1] ∧ WordIn made v0 d0 ∧ WordIn made v1 d1 := by
  obtain ⟨hl, hw⟩ := W
  have h2 : its.size = 2 := by simpa using hl
  refine ⟨its[0], its[1], ?_, hw 0 _ _ (by simp [h2]) rfl, hw 1 _ _ (by simp [h2]) rfl⟩
  refine Array.ext (by simp [h2]) fun i h1 h3 => ?_
  have : i = 0 ∨ i = 1 := by omega
  rcases this with rfl | rfl <;> rfl
theorem wordOf_plain (n : Str) : isPlainF (wordOf n) = true := by
  have e : joiningL.any (fun y => y == Str.ofString "") = false := by decide +kernel
  unfold isPlainF
  rw [wordOf_free, Bool.true_and]
  unfold wordOf
  split
  · rename_i h
    unfold isBareF at h
    simp only [Bool.and_eq_true] at h
    exact h.1.1.2
  · simp only [e, Bool.not_false]
theorem wordOf_kd (n : Str) : (wordOf n).kd = Str.ofString "name" := by unfold wordOf; split <;> rfl
theorem name_right_spec (w : World) (s : Shared) (x : Str) (t : Tok) (hx : x.length ≤ 100) (hL : Lex (writeNameF x) 0 [wordOf x]) :
   Tell w 14 498 [.str x t, .bool (isBareF x)] [] s (fun r _ => r = .bool true) := by
  have hx1 : x.length ≤ 1000 := by omega
  have hwl := writeName_len x
  unfold Tell
  k_fill
  intro dp un gd cn cs fa ccd cl outer A₀ base h₀ L m mean mg mb news Q E B F X N T hk hf hd hu hret
  have N1 : News h₀ L s.heap [] := News.nil
  refine wpAny_call ?_
  k_dflt (refine' enterM (binds := [(Str.ofString "name", .str x t), (Str.ofString "bare", .bool (isBareF x))]) ?k1 ?k2 ?k3 ?k4 ?k5 ?kA ?kF ?kK ?k6 ?k7 ?k8 ?k9 ?kB ?_ ?c2 ?c3 ?c4 ?c5; (case kA => exact rfl); (case kF => exact rfl); (case kK => assumption); (case k1 => k_asm); (case k2 => k_asm); (case k3 => k_asm); (case k4 => exact N1); (case k5 => k_asm); (case k6 => k_is); (case k7 => k_is); (case k8 => ktr_room); (case k9 => exact BindsTo.of_eq rfl); (case c5 => decide); (case kB => exact locs rfl); (case c2 => exact rfl); (case c3 => exact rfl); (case c4 => exact rfl); k_whole)
  intro g L' h₁ tk₁ Kp F' N' B' X' T' l1
  (try k_lt l1)
  (try dsimp only)
  (try k_lift B')
  refine wpAny_gen (fun R0 hR0 => ?_)
  replace hret := fun r h' tk' k p => hR0 (.ok (.ret r)) _ (hret r h' tk' k p)
  clear hR0
  (try k_fold)

  k_steps
  unfold Halt
  refine For_invV g (by rfl) (by rfl) ?_
  k_steps
  unfold Halt
  rename Fr g L' _ _ => F2
  refine iter_text (fun i m => (∃ t', m (Str.ofString "text") = some (.str (dblT x i) t')) ∧ m (Str.ofString "name") = some (.str x t) ∧ m (Str.ofString "bare") = some (.bool (isBareF x))) (by rfl) F2 News.nil ⟨⟨_, rfl⟩, rfl, rfl⟩ ?_ ?_
  · intro i c t' m₁ h tk own hc hoff hJ F1 N1'
    refine named (fun G9 hG9 => ?_)
    obtain ⟨⟨tt, hJ1⟩, hJ2, hJ3⟩ := hJ
    refine hG9 ?_
    clear hG9 G9
    have hl1 : (⟨#[c]⟩ : Str).length = 1 := rfl
    have htl := dblT_len x i hx
    have hm2 : (Txt.mul (⟨#[c]⟩ : Str) 2).length = 2 := by rw [mul_two]; rfl
    k_steps
    all_goals unfold Halt
    all_goals
      rename Fr g L' _ _ => Fz
      rename News g L' _ _ => Nz
    · exact inv_end Fz Nz ⟨⟨_, by rw [← dblT_yes hc (by assumption)]; rfl⟩, hJ2, hJ3⟩ (by simp) (by simp)
    · exact inv_end Fz Nz ⟨⟨_, by rw [← dblT_no hc (by assumption)]; rfl⟩, hJ2, hJ3⟩ (by simp) (by simp)
  · intro m₁ h tk hJ F1 N1'
    refine named (fun G9 hG9 => ?_)
    obtain ⟨⟨tt, hJ1⟩, hJ2, hJ3⟩ := hJ
    refine hG9 ?_
    clear hG9 G9
    have htl := dblT_len x x.cps.size hx
    have hta := dblT_all x
    have hbb : (isBareF x != isBareF x) = false := by simp
    k_steps
    unfold Halt
    refine cut_stmt (m := m₁) (nw := []) (L := L') (g := g) ?_ ?_
    · clear hret
      refine wpAny_If ?_
      k_steps
      all_goals
        first
        | (exfalso
           rename isBareF x = true => hb
           rename (writeNameF x != x) = true => hw
           unfold writeNameF at hw
           rw [if_pos hb] at hw
           simp at hw
           done)
        | (exfalso
           rename isBareF x = false => hb
           rename (writeNameF x != _) = true => hw
           rw [hta] at hw
           unfold writeNameF at hw
           rw [if_neg (by simp [hb])] at hw
           simp at hw
           done)
        | exact Went.mk _ _ (by assumption) (by assumption)
    · intro h2 tk2 F2' N2'
      clear F1 N1'
      k_steps
      unfold Halt
      rename Fr g L' _ _ => F5
      rename News g L' _ _ => N5
      refine tell_use (read_words_spec w _ (writeNameF x) _ [wordOf x] (by omega) hL (by simp)) (by assumption) (by assumption) (by assumption) (by assumption) (by assumption) (by rfl) (by ktr_room) (by ktr_units) ?_
      intro v h3 tk3 F3 N3 K3 hP3
      refine named (fun G9 hG9 => ?_)
      obtain ⟨lw, its, kk, made, rfl, hlm, hM, hW⟩ := hP3
      refine hG9 ?_
      clear hG9 G9
      have Nm := made_led F5 hM
      refine named (fun G9 hG9 => ?_)
      obtain ⟨v0, v1, rfl, hv0, hv1⟩ := words_two hW
      refine hG9 ?_
      clear hG9 G9
      refine named (fun G9 hG9 => ?_)
      obtain ⟨x0, dx0, g1, g2, g3, g4, u1, u2, u3, u4, ua, ub, wv, wp, rfl, hm1, hm2, hvv⟩ := hv0
      refine hG9 ?_
      clear hG9 G9
      refine named (fun G9 hG9 => ?_)
      obtain ⟨x1, dx1, _, _, _, _, _, _, _, _, _, _, _, _, rfl, _, _, _⟩ := hv1
      refine hG9 ?_
      clear hG9 G9
      rw [wordOf_val] at hvv
      obtain ⟨tv, rfl⟩ := hvv.strs
      rw [wordOf_kd] at hm2
      have hmk : ∀ h' : Heap, h'.get? x0 = some (instObj 147 dx0) → h'.get? dx0 = some (dictOf (wordEs g1 g2 g3 g4 u1 u2 u3 u4 ua ub (Str.ofString "name") (wordOf x).tx (.str x tv) wp) 4) → IsWord h' (.ref x0) (wordOf x) :=
        fun h' a b => ⟨x0, dx0, g1, g2, g3, g4, u1, u2, u3, u4, ua, ub, _, wp, rfl, a, by rw [wordOf_kd]; exact b, by rw [wordOf_val]; exact VIs.str _ _⟩
      have N6 : News g L' h3 [(lw, listOf #[.ref x0, .ref x1] kk), (x0, instObj 147 dx0), (dx0, _)] := news_sub Nm (by
        intro q hq
        rcases List.mem_cons.mp hq with rfl | hq
        · exact hlm
        rcases List.mem_cons.mp hq with rfl | hq
        · exact hm1
        cases List.mem_singleton.mp hq
        exact hm2)
      clear N3 N5 F5
      dsimp only [wordEs] at N6
      have hxx : (x == x) = true := beq_self_eq_true x
      k_steps
      unfold Halt
      rename Fr g L' _ _ => F7
      rename News g L' _ _ => N7
      refine tell_use (is_plain_spec w _ _ (wordOf x) (hmk _ (N7.get (by walk_at "my mem3")) (N7.get (by walk_at "my mem3")))) (by assumption) (by assumption) (by assumption) (by assumption) (by assumption) (by rfl) (by ktr_room) (by ktr_units) ?_
      intro v h9 tk9 F9 N9 K9 hP9
      rw [wordOf_plain] at hP9
      subst hP9
      k_steps
      exact hret _ _ _ (Kp.fr F9) rfl
end

theorem off_G5 : True := by w_top off; trivial
section
noncomputable def numW (i : Int) : Wd := ⟨Str.ofString "number", Str.ofString "", .int i⟩
/-- the values that the law writes: the value, its text, the words of its text -/
inductive VC : Value → Str → List Wd → Prop
  | none : VC .none (Str.ofString "NULL") [⟨Str.ofString "name", Str.ofString "NULL", .str (Str.ofString "NULL")⟩]
  | pos (i : Int) (t : Tok) (h : i = 0 ∨ i = 9223372036854775807) : VC (.int i t) (Str.ofString (toString i)) [numW i]
  | neg (i : Int) (t : Tok) (h : i = -9223372036854775808 ∨ i = -1) : VC (.int i t) (Str.ofString (toString i)) [sgn "-", numW (-i)]
  | str (x : Str) (t : Tok) (h : x.length ≤ 10) : VC (.str x t) (quoteF 39 x) [⟨Str.ofString "text", Str.ofString "", .str x⟩]
  | blob (b : Array UInt8) (t : Tok) (z : Str) (h : (b = #[] ∧ z = Str.ofString "X''") ∨ (b = #[0, 255, 16] ∧ z = Str.ofString "X'00FF10'")) : VC (.bytes b t) z [⟨Str.ofString "blob", Str.ofString "", .bytes b⟩]
theorem VC.handed {v : Value} {tx : Str} {ds : List Wd} (h : VC v tx ds) : handedIn v = true := by cases h <;> rfl
theorem VC.few {v : Value} {tx : Str} {ds : List Wd} (h : VC v tx ds) : ds.length ≤ 2 := by cases h <;> simp
theorem lex_num {tx : Str} {p : Nat} {v : Int} {e : Nat} (hn : NumAt tx p v e) (hc : ∃ c, tx.cps[p]? = some c ∧ cls c = 2) (hp : p < e) (he : e = tx.length) : Lex tx p [numW v] := by
  obtain ⟨c, h1, h2⟩ := hc
  exact Lex.step (od := [numW v]) h1 (Turn.num v e h2 hn) hp (Nat.le_of_eq he) (Lex.done he)
theorem lex_minus {tx : Str} {ds : List Wd} (h1 : tx.cps[0]? = some 45) (h2 : ((⟨((tx.cps.toList.drop 0).take 2).toArray⟩ : Str) == Str.ofString "--") = false ∧ ((⟨((tx.cps.toList.drop 0).take 2).toArray⟩ : Str) == Str.ofString "/*") = false ∧ twoL.any (· == (⟨((tx.cps.toList.drop 0).take 2).toArray⟩ : Str)) = false) (h3 : 1 ≤ tx.length) (r : Lex tx 1 ds) : Lex tx 0 (sgn "-" :: ds) := by
  have e : Str.ofString "-" = ⟨#[45]⟩ := by decide +kernel
  unfold sgn
  rw [e]
  exact Lex.step (od := [_]) h1 (Turn.mark _ (by decide +kernel) rfl h2.1 h2.2.1 h2.2.2 (by decide +kernel)) (by decide) h3 r
theorem VC.lex {v : Value} {tx : Str} {ds : List Wd} (h : VC v tx ds) : Lex tx 0 ds ∧ tx.length ≤ 100 := by
  cases h with
  | none =>
    have e : foldedF (Str.ofString "NULL") = Str.ofString "NULL" := by decide +kernel
    have := lexW (Str.ofString "NULL") _ 0 (.inr (.inr rfl)) (by rw [List.drop_zero])
    rw [e] at this
    exact ⟨this, by decide +kernel⟩
  | pos i t h =>
    rcases h with rfl | rfl
    · exact ⟨lex_num (e := 1) (.inl ⟨by decide +kernel, rfl, rfl, rfl⟩) ⟨48, by decide +kernel, by decide +kernel⟩ (by decide) (by decide +kernel), by decide +kernel⟩
    · exact ⟨lex_num (e := 19) (.inr (.inl ⟨by decide +kernel, rfl, rfl, rfl⟩)) ⟨57, by decide +kernel, by decide +kernel⟩ (by decide) (by decide +kernel), by decide +kernel⟩
  | neg i t h =>
    rcases h with rfl | rfl
    · exact ⟨lex_minus (by decide +kernel) (by decide +kernel) (by decide +kernel) (lex_num (e := 20) (.inr (.inr (.inl ⟨by decide +kernel, rfl, by decide, rfl⟩))) ⟨57, by decide +kernel, by decide +kernel⟩ (by decide) (by decide +kernel)), by decide +kernel⟩
    · exact ⟨lex_minus (by decide +kernel) (by decide +kernel) (by decide +kernel) (lex_num (e := 2) (.inr (.inr (.inr ⟨by decide +kernel, rfl, by decide, rfl⟩))) ⟨49, by decide +kernel, by decide +kernel⟩ (by decide) (by decide +kernel)), by decide +kernel⟩
  | str x t h =>
    have hl := dbl_len 39 x.cps.toList
    have h3 : x.cps.toList.length = x.length := by simp [Str.length]
    have el : (quoteF 39 x).length = 1 + (StrLaws.dbl 39 x.cps.toList).length + 1 := by unfold quoteF; simp only [Str.length, List.size_toArray, List.length_cons, List.length_append, List.length_nil]; (try omega)
    refine ⟨?_, by omega⟩
    have := lex_quoted (tx := quoteF 39 x) (p := 0) (q := 39) (body := x.cps.toList) (post := []) (ds := []) (.inr rfl) (by rw [List.drop_zero]; unfold quoteF; simp) (by simp) (Lex.done (by rw [el]))
    simpa using this
  | blob b t z h =>
    rcases h with ⟨rfl, rfl⟩ | ⟨rfl, rfl⟩
    · exact ⟨Lex.step (od := [_]) (c := 88) (e := 3) (by decide +kernel) (Turn.blob _ _ (by decide +kernel) (.inl ⟨rfl, rfl, rfl, rfl⟩)) (by decide) (by decide +kernel) (Lex.done (by decide +kernel)), by decide +kernel⟩
    · exact ⟨Lex.step (od := [_]) (c := 88) (e := 9) (by decide +kernel) (Turn.blob _ _ (by decide +kernel) (.inr ⟨rfl, rfl, rfl, rfl⟩)) (by decide) (by decide +kernel) (Lex.done (by decide +kernel)), by decide +kernel⟩
theorem wv_gen (w : World) (s : Shared) {v : Value} {tx : Str} {ds : List Wd} (h : VC v tx ds) : Tell w 2 290 [v] [] s (fun r _ => ∃ t', r = .str tx t') := by
  cases h with
  | none => exact wv_none w s
  | pos i t h => exact wv_int w s i t (by rcases h with rfl | rfl <;> decide) (by rcases h with rfl | rfl <;> decide)
  | neg i t h => exact wv_int w s i t (by rcases h with rfl | rfl <;> decide) (by rcases h with rfl | rfl <;> decide)
  | str x t h => exact wv_str w s x t (by omega)
  | blob b t z h => exact wv_blob w s b t _ (by rcases h with h | h; exact .inl h; exact .inr (.inl h))
end

theorem off_G6 : True := by w_top off; trivial
section
local macro_rules | `(tactic| walk_at "no such key") => `(tactic| skip)
local macro_rules | `(tactic| walk_at "call ref") => `(tactic| (k_here; first | with_reducible refine halt_at 479 ?_ | with_reducible refine halt_at 290 ?_ | with_reducible refine halt_at 263 ?_ | with_reducible refine halt_at 144 ?_))
local macro_rules | `(tactic| walk_at "exec Assign cons ListComp") => `(tactic| (refine halt ?_))
local macro_rules | `(tactic| walk_at "CompSrc") => `(tactic| (refine halt ?_))
local macro_rules | `(tactic| walk_at "CompRest") => `(tactic| (refine halt ?_))
local macro_rules | `(tactic| walk_at "CompEnd") => `(tactic| (refine halt ?_))
local macro_rules | `(tactic| k_inst) => `(tactic| exact ⟨by assumption, rfl, rfl, by assumption⟩)
local macro_rules | `(tactic| walk_at "compareOp Eq ref ref") => `(tactic| (refine halt ?_))
local macro_rules | `(tactic| walk_at "binaryOp Add ref ref") => `(tactic| (refine halt ?_))
local macro_rules | `(tactic| walk_at "my off") => `(tactic| (repeat (first | exact off_nil | (refine off_cons (by walk_at "my mem") (by walk_at "my lt") ?_))))
theorem vc_of {v : Value} {t0 t1 t2 t3 t4 t5 t6 t7 t8 t9 t10 : Tok} (hv : v ∈ [Value.none, .int 0 t0, .int (2 ^ Int.toNat 63 - 1) t1, .int (-2 ^ Int.toNat 63) t2, .int (-1) t3, .str (Str.ofString "") t4, .str (Str.ofString "it's") t5, .str (Str.ofString "''") t6, .str (Str.ofString "-- a") t7, .bytes #[] t8, .bytes #[(Int.toNat 0).toUInt8, (Int.toNat 255).toUInt8, (Int.toNat 16).toUInt8] t9, .str (Str.ofString "é\n") t10]) :
   ∃ tx ds, VC v tx ds := by
  simp only [List.mem_cons, List.not_mem_nil, or_false] at hv
  rcases hv with rfl | rfl | rfl | rfl | rfl | rfl | rfl | rfl | rfl | rfl | rfl | rfl
  · exact ⟨_, _, VC.none⟩
  · exact ⟨_, _, VC.pos _ _ (.inl rfl)⟩
  · exact ⟨_, _, VC.pos _ _ (.inr (by decide))⟩
  · exact ⟨_, _, VC.neg _ _ (.inl (by decide))⟩
  · exact ⟨_, _, VC.neg _ _ (.inr (by decide))⟩
  · exact ⟨_, _, VC.str _ _ (by decide +kernel)⟩
  · exact ⟨_, _, VC.str _ _ (by decide +kernel)⟩
  · exact ⟨_, _, VC.str _ _ (by decide +kernel)⟩
  · exact ⟨_, _, VC.str _ _ (by decide +kernel)⟩
  · exact ⟨_, _, VC.blob _ _ _ (.inl ⟨rfl, rfl⟩)⟩
  · exact ⟨_, _, VC.blob _ _ _ (.inr ⟨by decide, rfl⟩)⟩
  · exact ⟨_, _, VC.str _ _ (by decide +kernel)⟩
inductive Due (s : Shared) (g : Heap) (L : Addr) (m : Str → Option Value) (base : List (Addr × Obj)) (ds : List Wd) : Flow → Shared → Prop
  | mk (h' : Heap) (tk' : Nat) (E : Addr) (items : List Value) (k : Nat) (nw : List (Addr × Obj)) (F : Fr g L h' (fun y => if y = Str.ofString "due" then some (.ref E) else m y)) (N : News g L h' nw) (he : (E, listOf items.toArray k) ∈ nw) (hb : ∀ q ∈ base, q ∈ nw) (hr : RowsIn nw items ds) (hl : items.length ≤ 2) :
    Due s g L m base ds .next { s with heap := h', toks := tk' }
theorem value_right_spec (w : World) (s : Shared) (l : Addr) (hS : IsSrc s.heap l) :
   Tell w 20 503 [.ref l] [l] s (fun r h' => r = .bool true ∧ IsSrc h' l) := by
  refine named (fun G9 hG9 => ?_)
  obtain ⟨A, B0, ta, tb, n, hA, hB1, hB2, e1⟩ := hS
  refine hG9 ?_
  clear hG9 G9
  unfold Tell
  k_fill
  intro dp un gd cn cs fa ccd cl outer A₀ base h₀ L m mean mg mb news Q E B F X N T hk hf hd hu hret
  have N1 := news_foot N hf (List.mem_singleton.mpr rfl) e1 News.nil
  refine wpAny_call ?_
  k_dflt (refine' enterM (binds := [(Str.ofString "source", .ref l)]) ?k1 ?k2 ?k3 ?k4 ?k5 ?kA ?kF ?kK ?k6 ?k7 ?k8 ?k9 ?kB ?_ ?c2 ?c3 ?c4 ?c5; (case kA => exact rfl); (case kF => exact rfl); (case kK => assumption); (case k1 => k_asm); (case k2 => k_asm); (case k3 => k_asm); (case k4 => exact N1); (case k5 => k_asm); (case k6 => k_is); (case k7 => k_is); (case k8 => ktr_room); (case k9 => exact BindsTo.of_eq rfl); (case c5 => decide); (case kB => exact locs rfl); (case c2 => exact rfl); (case c3 => exact rfl); (case c4 => exact rfl); k_whole)
  intro g L' h₁ tk₁ Kp F' N' B' X' T' l1
  (try k_lt l1)
  (try dsimp only)
  (try k_lift B')
  refine wpAny_gen (fun R0 hR0 => ?_)
  replace hret := fun r h' tk' k p => hR0 (.ok (.ret r)) _ (hret r h' tk' k p)
  clear hR0
  (try k_fold)

  k_steps
  unfold Halt
  rename Fr g L' _ _ => F5
  rename News g L' _ _ => N5
  refine tell_useF (one_spec w _ l _ _ 0 (src_is N5 (by walk_at "my mem") hA hB1 hB2) (Nat.ne_of_gt (by walk_at "my lt")) (News.get N5 (List.Mem.head _)) (by simp) (by simp)) (by assumption) (by assumption) (by assumption) (by assumption) (by assumption) (by rfl) (by ktr_room) (by ktr_units) (foot1 (o := listOf #[.int A ta, .int B0 tb] n) (by walk_at "my mem")) ?_
  intro v h6 tk6 F6 N6 K6 hP6
  obtain ⟨hv, hP6⟩ := hP6
  obtain ⟨tx, ds, hvc⟩ := vc_of hv
  clear hv
  refine named (fun G9 hG9 => ?_)
  obtain ⟨A2, B2, ta2, tb2, n2, hA2, hB21, hB22, N7⟩ := src_next2 (rest := []) (o := listOf #[.int A ta, .int B0 tb] n) N6 (by walk_at "my mem") off_nil K6 hP6
  refine hG9 ?_
  clear hG9 G9
  clear N6 N5
  have hvh := hvc.handed
  have hvl := hvc.lex
  k_steps
  unfold Halt
  rename Fr g L' _ _ => F7
  refine LCg.Assign_ListComp_U (F₀ := F7) (by rfl) (by with_unfolding_all rfl) (by with_unfolding_all rfl) (by decide) (by rfl) (by decide) (by rfl) (by rfl) (by rfl) ?_
  k_steps
  unfold Halt
  refine tell_use (wv_gen w _ hvc) (by assumption) (by assumption) (by assumption) (by assumption) (by assumption) (by rfl) (by ktr_room) (by ktr_units) ?_
  intro r8 h8 tk8 F8 N8 K8 hP8
  obtain ⟨t8, rfl⟩ := hP8
  k_steps
  unfold Halt
  rename Fr g L' _ _ => F9
  rename News g L' _ _ => N9
  refine tell_use (read_words_spec w _ tx _ ds (by omega) hvl.1 (by have := hvc.few; omega)) (by assumption) (by assumption) (by assumption) (by assumption) (by assumption) (by rfl) (by ktr_room) (by ktr_units) ?_
  intro v3 h3 tk3 F3 N3 K3 hP3
  refine named (fun G9 hG9 => ?_)
  obtain ⟨lw, its, kk, made, rfl, hlm, hM, hW⟩ := hP3
  refine hG9 ?_
  clear hG9 G9
  have Nm := made_led F9 hM
  have hlne : ∀ q ∈ made, q.1 ≠ l := by
    intro q hq e
    have h1 := (hM q hq).2
    rw [e] at h1
    rw [(N9 _ (List.Mem.head _)).1] at h1
    cases h1
  have N4 : News g L' h3 ((l, listOf #[.int A2 ta2, .int B2 tb2] n2) :: made) := by
    intro q hq
    rcases List.mem_cons.mp hq with rfl | hq
    · exact N3 _ (List.Mem.head _)
    · exact Nm q hq
  clear N3 N9
  have hdl : (ds ++ [endW]).length ≤ 3 := by have := hvc.few; simp; omega
  have hsz : its.size ≤ 3 := by have := hW.1; simp at this; simp at hdl; omega
  k_steps
  unfold Halt
  refine LCg.CompSrc.ledger (by rfl) F3 N4 (List.Mem.tail _ hlm) (Nat.le_trans hsz (Nat.le_trans (by omega) sizeLine_ge)) ?_
  intro g'
  refine rest_u (fun i acc nw => (∀ q ∈ (l, listOf #[.int A2 ta2, .int B2 tb2] n2) :: made, q ∈ nw) ∧ RowsIn nw acc ((ds ++ [endW]).take i)) ⟨fun q hq => hq, by rw [List.take_zero]; exact .nil⟩ ?_ ?_
  · rintro i k' acc nw hi ⟨hb, hr⟩ ih
    refine LCg.CompRest.succ ?_
    intro v' I' oI' C' oC' D' m' h' tk' E' hv' hC' hx' F' N' off' ne'
    obtain ⟨d, hd⟩ : ∃ d, (ds ++ [endW])[i]? = some d := ⟨_, List.getElem?_eq_getElem (by have := hW.1; simp at this ⊢; omega)⟩
    refine named (fun G9 hG9 => ?_)
    obtain ⟨x, dx, g1, g2, g3, g4, u1, u2, u3, u4, ua, ub, wv, wp, rfl, hxm, hdm, hvv⟩ := hW.2 i v' d (by simpa using hv') hd
    refine hG9 ?_
    clear hG9 G9
    have hx9 : h'.get? x = some (instObj 147 dx) := (N' _ (List.Mem.tail _ (List.Mem.tail _ (List.Mem.tail _ (hb _ (List.Mem.tail _ hxm)))))).1
    have hd9 : h'.get? dx = some (dictOf (wordEs g1 g2 g3 g4 u1 u2 u3 u4 ua ub d.kd d.tx wv wp) 4) := (N' _ (List.Mem.tail _ (List.Mem.tail _ (List.Mem.tail _ (hb _ (List.Mem.tail _ hdm)))))).1
    k_steps
    unfold Halt
    refine tell_use (row_spec w _ (.ref x) d ⟨x, dx, g1, g2, g3, g4, u1, u2, u3, u4, ua, ub, wv, wp, rfl, hx9, hd9, hvv⟩) (by assumption) (by assumption) (by assumption) (by assumption) (by assumption) (by rfl) (by ktr_room) (by ktr_units) ?_
    intro r9 h9 tk9 F9 N9 K9 hP9
    refine named (fun G9 hG9 => ?_)
    obtain ⟨a, ta9, tb9, x9, n9, rfl, ho9, hv9, hf9⟩ := hP9
    refine hG9 ?_
    clear hG9 G9
    have N10 := news_new F' hf9 ho9 N9
    have hne : ∀ b o, (b, o) ∈ (I', oI') :: (C', oC') :: (D', LCg.lst acc) :: nw → @Ne Nat a b := by
      intro b o hq e
      have h1 := (N' _ hq).1
      have e2 : a = b := e
      rw [← e2, show h'.get? a = none from hf9] at h1
      cases h1
    clear N9
    k_steps
    unfold Halt
    rename Fr g L' _ _ => Fz
    rename News g L' _ _ => Nz
    refine LCg.CompEnd.intro Fz Nz ((a, ({ cls := .type "tuple", data := .seq #[.str d.kd ta9, .str d.tx tb9, x9] n9 } : Obj)) :: nw) ?_ ⟨⟨hne _ _ (List.Mem.head _), hne _ _ (List.Mem.tail _ (List.Mem.head _)), hne _ _ (List.Mem.tail _ (List.Mem.tail _ (List.Mem.head _)))⟩, off'⟩ (.inr ⟨_, List.Mem.tail _ (hb _ (List.Mem.tail _ hlm)), rfl, _, rfl⟩) (ih _ _ ⟨fun q hq => List.Mem.tail _ (hb q hq), ?_⟩)
    · intro q hq
      rcases List.mem_cons.mp hq with rfl | hq
      · exact List.Mem.tail _ (List.Mem.head _)
      rcases List.mem_cons.mp hq with rfl | hq
      · exact List.Mem.tail _ (List.Mem.tail _ (List.Mem.head _))
      rcases List.mem_cons.mp hq with rfl | hq
      · exact List.Mem.tail _ (List.Mem.tail _ (List.Mem.tail _ (List.Mem.head _)))
      rcases List.mem_cons.mp hq with rfl | hq
      · exact List.Mem.head _
      · exact List.Mem.tail _ (List.Mem.tail _ (List.Mem.tail _ (List.Mem.tail _ hq)))
    · rw [List.take_add_one, hd]
      exact (hr.mono fun q hq => List.Mem.tail _ hq).snoc ⟨a, _, _, _, _, rfl, List.Mem.head _, hv9⟩
  · rintro acc nw ⟨hb, hr⟩
    intro D h9 tk9 F9 N9 off9
    have hr2 : RowsIn nw acc (ds ++ [endW]) := by
      have hl1 := hW.1
      rw [show its.size = (ds ++ [endW]).length by simpa using hl1, List.take_length] at hr
      exact hr
    have N10 : News g L' h9 ((D, LCg.lst acc) :: (l, listOf #[.int A2 ta2, .int B2 tb2] n2) :: nw) := by
      intro q hq
      rcases List.mem_cons.mp hq with rfl | hq
      · exact N9 _ (List.Mem.head _)
      rcases List.mem_cons.mp hq with rfl | hq
      · exact N9 _ (List.Mem.tail _ (hb _ (List.Mem.head _)))
      · exact N9 _ (List.Mem.tail _ hq)
    clear N9
    show wpAny _ _ (execs _ _) _ _ _
    refine wpAny_execs_cons ?_
    refine wpAny_mono (Q := Due { s with heap := h9, toks := tk9 } g L' (fun z => if z = Str.ofString "rows" then some (.ref D) else (fun y => if y = Str.ofString "value" then some v else List.lookup y [(Str.ofString "source", Value.ref l)].reverse) z) ((D, LCg.lst acc) :: (l, listOf #[.int A2 ta2, .int B2 tb2] n2) :: nw) ds) ?_ ?_ (fun _ _ e => e)
    · clear hret
      cases hvc
      all_goals k_steps
      all_goals
        rename Fr g L' _ _ => Fz
        rename News g L' _ _ => Nz
        refine Due.mk _ _ _ _ _ _ Fz Nz (List.Mem.head _) (fun q hq => by first | exact List.Mem.tail _ (List.Mem.tail _ hq) | exact List.Mem.tail _ (List.Mem.tail _ (List.Mem.tail _ hq))) ?_ (by simp)
        first
        | exact .cons ⟨_, _, _, _, _, rfl, List.Mem.tail _ (List.Mem.head _), by constructor⟩ .nil
        | exact .cons ⟨_, _, _, _, _, rfl, List.Mem.tail _ (List.Mem.tail _ (List.Mem.head _)), by constructor⟩ (.cons ⟨_, _, _, _, _, rfl, List.Mem.tail _ (List.Mem.head _), by constructor⟩ .nil)
    · intro f s' hD
      cases hD with
      | mk h10 tk10 E items k nw' F10 N11 he hbb hrr hll =>
        have N12 : News g L' h10 ((E, listOf items.toArray k) :: nw') := fun q hq => by
          rcases List.mem_cons.mp hq with rfl | hq
          · exact N11 _ he
          · exact N11 _ hq
        have hisz : items.toArray.size ≤ 2 := by simpa using hll
        clear N11
        k_steps
        unfold Halt
        rename Fr g L' _ _ => Fy
        rename News g L' _ _ => Ny
        refine add_lists (vs := items) (ws := [.ref _]) Fy Ny (isList_of (Ny.get (List.Mem.tail _ (List.Mem.tail _ (List.Mem.head _))))) (isList_of (Ny.get (List.Mem.head _))) (hsz := Nat.le_trans (show items.length + 1 ≤ 3 by omega) (Nat.le_trans (by omega) sizeLine_ge)) ?_
        intro h8 F8 N8
        clear Fy Ny
        k_steps
        unfold Halt
        rename Fr g L' _ _ => Fz
        rename News g L' _ _ => Nz
        have up : ∀ (x1 x2 x3 x4 : Addr × Obj), ∀ q ∈ (D, LCg.lst acc) :: (l, listOf #[.int A2 ta2, .int B2 tb2] n2) :: nw, q ∈ x1 :: x2 :: x3 :: x4 :: nw' := fun _ _ _ _ q hq => List.Mem.tail _ (List.Mem.tail _ (List.Mem.tail _ (List.Mem.tail _ (hbb q hq))))
        refine rows_eq (isList_of (n := acc.length) (Nz.get (up _ _ _ _ _ (List.Mem.head _)))) ⟨_, Nz.get (List.Mem.head _), rfl, _, rfl⟩ (hr2.at Nz fun q hq => up _ _ _ _ _ (List.Mem.tail _ (List.Mem.tail _ hq)))
          ((RowsIn.snoc (d := endW) (hrr.mono fun q hq => List.Mem.tail _ (List.Mem.tail _ (List.Mem.tail _ (List.Mem.tail _ hq)))) ⟨_, _, _, _, _, rfl, List.Mem.tail _ (List.Mem.tail _ (List.Mem.head _)), VIs.none⟩).at Nz fun q hq => hq) (by ktr_units) ?_
        k_steps
        exact hret _ _ _ (Kp.fr Fz) ⟨rfl, src_is Nz (up _ _ _ _ _ (List.Mem.tail _ (List.Mem.head _))) hA2 hB21 hB22⟩
end

theorem off_G7 : True := by w_top off; trivial
section
local macro_rules | `(tactic| walk_at "call ref") => `(tactic| (k_here; first | with_reducible refine halt_at 472 ?_ | with_reducible refine halt_at 479 ?_ | with_reducible refine halt_at 491 ?_ | with_reducible refine halt_at 297 ?_ | with_reducible refine halt_at 263 ?_ | with_reducible refine halt_at 304 ?_ | with_reducible refine halt_at 374 ?_))
local macro_rules | `(tactic| walk_at "exec Assign cons ListComp") => `(tactic| (refine halt ?_))
local macro_rules | `(tactic| walk_at "CompSrc") => `(tactic| (refine halt ?_))
local macro_rules | `(tactic| walk_at "CompRest") => `(tactic| (refine halt ?_))
local macro_rules | `(tactic| walk_at "CompEnd") => `(tactic| (refine halt ?_))
local macro_rules | `(tactic| walk_at "call builtin:str.join") => `(tactic| (refine halt ?_))
local macro_rules | `(tactic| walk_at "my off") => `(tactic| (repeat (first | exact off_nil | (refine off_cons (by walk_at "my mem") (by walk_at "my lt") ?_))))
theorem news_app {g h : Heap} {L : Addr} {a b : List (Addr × Obj)} (N : News g L h a) (N' : News g L h b) : News g L h (a ++ b) := fun q hq => by
  rcases List.mem_append.mp hq with h | h
  · exact N q h
  · exact N' q h
theorem IsStream.apart {h : Heap} {x dx lw l : Addr} {vs : List Value} {a : Int} {its : Array Value} {n : Nat} (i : IsStream h x dx lw vs a) (e : h.get? l = some (listOf its n)) : l ∉ [dx] := fun hq => by
  refine named (fun G9 hG9 => ?_)
  obtain ⟨h1, h2, h3, h4, t1, t2, t3, t4, ta, tx, hv, n, e1, e2, e3⟩ := i
  refine hG9 ?_
  clear hG9 G9
  rw [List.mem_singleton.mp hq, e2] at e
  exact absurd (congrArg Obj.cls (Option.some.inj e)) (fun q => absurd (Value.type.inj q) (by decide))
local macro_rules | `(tactic| k_inst) => `(tactic| exact ⟨by assumption, rfl, rfl, by assumption⟩)
inductive SrcOnly (l : Addr) (rest : List (Addr × Obj)) : List (Addr × Obj) → Prop
  | mk (A B : Int) (ta tb : Tok) (n : Nat) (a : 0 ≤ A) (b : 0 ≤ B) (c : B < 2147483647) : SrcOnly l rest ((l, listOf #[.int A ta, .int B tb] n) :: rest)
inductive Strs20 (i : Nat) (acc : List Value) : Prop
  | mk (zs : List Str) (a : StrsAre acc zs) (b : zs.length = i) (c : ∀ z ∈ zs, z.length ≤ 20) : Strs20 i acc
noncomputable def sufL : List Str := [Str.ofString "", Str.ofString "", Str.ofString "(10)", Str.ofString "(8,-2)", Str.ofString " "]
theorem suf_len : ∀ z ∈ sufL, z.length ≤ 6 := by decide +kernel
theorem cat_len (a b : Str) : (a ++ b).length = a.length + b.length := by simp only [Str.length, PySem.Str.cps_append, Array.size_append]
theorem writeType_len (x : Str) (hx : x.length ≤ 90) : (writeTypeF x).length ≤ 200 := by
  unfold writeTypeF
  split
  · omega
  · have := writeName_len x; omega
theorem range_size (b : Int) (h : 0 ≤ b) : Builtin.Range.rangeSize 0 b 1 = ((b.toNat : Nat) : Int) := by rw [rangeSize_one]; split <;> omega
theorem type_right_spec (w : World) (s : Shared) (l : Addr) (hS : IsSrc s.heap l) :
   Tell w 24 508 [.ref l] [l] s (fun r h' => r = .bool true ∧ IsSrc h' l) := by
  refine named (fun G9 hG9 => ?_)
  obtain ⟨A, B0, ta, tb, n, hA, hB1, hB2, e1⟩ := hS
  refine hG9 ?_
  clear hG9 G9
  unfold Tell
  k_fill
  intro dp un gd cn cs fa ccd cl outer A₀ base h₀ L m mean mg mb news Q E B F X N T hk hf hd hu hret
  have N1 := news_foot N hf (List.mem_singleton.mpr rfl) e1 News.nil
  refine wpAny_call ?_
  k_dflt (refine' enterC (binds := [(Str.ofString "source", .ref l)]) ?k1 ?k2 ?k3 ?k4 ?k5 ?kA ?kF ?kK ?k6 ?k7 ?k8 ?k9 ?kB ?kD ?_ ?c2 ?c3 ?c4; (case kA => exact rfl); (case kF => exact rfl); (case kK => assumption); (case k1 => k_asm); (case k2 => k_asm); (case k3 => k_asm); (case k4 => exact N1); (case k5 => k_asm); (case k6 => k_is); (case k7 => k_is); (case k8 => ktr_room); (case k9 => exact BindsTo.of_eq rfl); (case kB => exact rfl); (case kD => decide +kernel); (case c2 => exact rfl); (case c3 => exact rfl); (case c4 => exact rfl); k_whole)
  intro g L' h₁ tk₁ cells' Kp F' N' Y' B' X' T' l1
  (try k_lt l1)
  k_cells Y'
  (try simp only [List.cons_append, List.nil_append] at N')
  (try dsimp only)
  (try k_lift B')
  refine wpAny_gen (fun R0 hR0 => ?_)
  replace hret := fun r h' tk' k p => hR0 (.ok (.ret r)) _ (hret r h' tk' k p)
  clear hR0
  (try k_fold)

  k_steps
  unfold Halt
  rename Fr g L' _ _ => F2
  refine LCg.Assign_ListComp_U (F₀ := F2) (by rfl) (by with_unfolding_all rfl) (by with_unfolding_all rfl) (by decide) (by rfl) (by decide) (by rfl) (by rfl) (by rfl) ?_
  rename_i oc dc
  k_steps
  unfold Halt
  rename News g L' _ _ => N2
  refine tell_useF (take_spec w _ l _ _ (src_is N2 (by walk_at "my mem") hA hB1 hB2) (by omega) (by omega)) (by assumption) (by assumption) (by assumption) (by assumption) (by assumption) (by rfl) (by ktr_room) (by ktr_units) (foot1 (o := listOf #[.int A ta, .int B0 tb] n) (by walk_at "my mem")) ?_
  intro v h3 tk3 F3 N3 K3 hP3
  refine named (fun G9 hG9 => ?_)
  obtain ⟨⟨d, t', rfl, hd0, hd1⟩, hP3⟩ := hP3
  refine hG9 ?_
  clear hG9 G9
  have hll : @Ne Nat (L' + 1) l := Nat.ne_of_gt (Nat.lt_succ_of_lt l1)
  refine named (fun G9 hG9 => ?_)
  obtain ⟨A1, B1, ta1, tb1, n1, hA1, hB11, hB12, N4⟩ := src_next2 (rest := [(L' + 1, oc)]) (o := listOf #[.int A ta, .int B0 tb] n) N3 (by walk_at "my mem") (fun p hp => by cases List.mem_singleton.mp hp; exact ⟨List.Mem.head _, hll⟩) K3 hP3
  refine hG9 ?_
  clear hG9 G9
  clear N3 N2
  k_steps
  unfold Halt
  rename IsRange _ _ _ _ _ _ _ _ => r9
  rename Fr g L' _ _ => F5
  rename News g L' _ _ => N5
  refine LCg.CompSrc.range (n := (1 + d).toNat) (by rfl) F5 N5 r9 (small_one (by decide) (by decide) (by omega) (by omega)) (range_size _ (by omega)) (Nat.le_trans (by omega) sizeLine_ge) ?_
  intro g'
  refine rest_u (fun i acc nw => SrcOnly l [(L' + 1, oc)] nw ∧ Strs20 i acc) ⟨SrcOnly.mk _ _ _ _ _ hA1 hB11 hB12, [], .nil, rfl, by simp⟩ ?_ ?_
  · clear N5 F5
    rintro i k' acc nw hi ⟨⟨A2, B2, ta2, tb2, n2, hA2, hB21, hB22⟩, zs, ha, hzl, hz⟩ ih
    refine LCg.CompRest.succ ?_
    intro v' I' oI' C' oC' D' m' h' tk' E' hv' hC' hx' F' N' off' ne'
    obtain ⟨t9, rfl⟩ := hv'
    k_steps
    unfold Halt
    refine tell_useF (name_spec w _ l (src_is N' (List.Mem.tail _ (List.Mem.tail _ (List.Mem.tail _ (List.Mem.head _)))) hA2 hB21 hB22)) (by assumption) (by assumption) (by assumption) (by assumption) (by assumption) (by rfl) (by ktr_room) (by ktr_units) (foot1 (o := listOf #[.int A2 ta2, .int B2 tb2] n2) (List.Mem.tail _ (List.Mem.tail _ (List.Mem.tail _ (List.Mem.head _))))) ?_
    intro v h6 tk6 F6 N6 K6 hP6
    refine named (fun G9 hG9 => ?_)
    obtain ⟨⟨a, nm, tn, n9, rfl, hget, hfr, hlen⟩, hP6⟩ := hP6
    refine hG9 ?_
    clear hG9 G9
    obtain ⟨A3, B3, ta3, tb3, n3, hA3, hB31, hB32, N7⟩ := src_next2 (rest := [(I', oI'), (C', oC'), (D', LCg.lst acc), (L' + 1, oc)]) (o := listOf #[.int A2 ta2, .int B2 tb2] n2) N6 (List.Mem.tail _ (List.Mem.tail _ (List.Mem.tail _ (List.Mem.head _)))) (fun p hp => by
      rcases List.mem_cons.mp hp with rfl | hp
      · exact ⟨List.Mem.head _, Ne.symm off'.1.1⟩
      rcases List.mem_cons.mp hp with rfl | hp
      · exact ⟨List.Mem.tail _ (List.Mem.head _), Ne.symm off'.1.2.1⟩
      rcases List.mem_cons.mp hp with rfl | hp
      · exact ⟨List.Mem.tail _ (List.Mem.tail _ (List.Mem.head _)), Ne.symm off'.1.2.2⟩
      cases List.mem_singleton.mp hp
      exact ⟨List.Mem.tail _ (List.Mem.tail _ (List.Mem.tail _ (List.Mem.tail _ (List.Mem.head _)))), hll⟩) K6 hP6
    have N8 := news_new F' hfr hget N7
    clear N6 N7
    k_steps
    unfold Halt
    rename Fr g L' _ _ => Fz
    rename News g L' _ _ => Nz
    refine LCg.CompEnd.intro Fz Nz ((l, listOf #[.int A3 ta3, .int B3 tb3] n3) :: [(L' + 1, oc)]) ?_ off' trivial (ih _ _ ⟨SrcOnly.mk _ _ _ _ _ hA3 hB31 hB32, zs ++ [nm], strs_app ha, by simp [hzl], ?_⟩)
    · intro q hq
      rcases List.mem_cons.mp hq with rfl | hq
      · exact List.Mem.tail _ (List.Mem.tail _ (List.Mem.head _))
      rcases List.mem_cons.mp hq with rfl | hq
      · exact List.Mem.tail _ (List.Mem.tail _ (List.Mem.tail _ (List.Mem.head _)))
      rcases List.mem_cons.mp hq with rfl | hq
      · exact List.Mem.tail _ (List.Mem.tail _ (List.Mem.tail _ (List.Mem.tail _ (List.Mem.head _))))
      rcases List.mem_cons.mp hq with rfl | hq
      · exact List.Mem.tail _ (List.Mem.head _)
      · cases List.mem_singleton.mp hq
        exact List.Mem.tail _ (List.Mem.tail _ (List.Mem.tail _ (List.Mem.tail _ (List.Mem.tail _ (List.Mem.head _)))))
    · intro z hz'
      rcases List.mem_append.mp hz' with h | h
      · exact hz z h
      · cases List.mem_singleton.mp h
        exact hlen
  · clear N5 F5
    rintro acc nw ⟨⟨A2, B2, ta2, tb2, n2, hA2, hB21, hB22⟩, zs, ha, hzl, hz⟩
    intro D h9 tk9 F9 N9 off9
    have hzl3 : zs.length ≤ 3 := by omega
    have hsum : (zs.map (·.length)).sum ≤ 20 * zs.length := sumLe 20 zs hz
    have hjl : (Txt.join (Str.ofString " ") zs).length ≤ 63 := by
      have := join_len_le (Str.ofString " ") zs
      have e1 : (Str.ofString " ").length = 1 := by decide +kernel
      rw [e1] at this
      omega
    k_steps
    unfold Halt
    refine join_list (isList_of (N9.get (List.Mem.head _))) ha ?tot ?_
    case tot =>
      have e1 : (Str.ofString " ").length = 1 := by decide +kernel
      rw [e1]; omega
    intro tj kj
    generalize Txt.join (Str.ofString " ") zs = jt at *
    have N10 := news_sub N9 (news' := [(l, listOf #[.int A2 ta2, .int B2 tb2] n2), (L' + 1, oc)]) (fun q hq => List.Mem.tail _ hq)
    clear N9
    k_steps
    unfold Halt
    rename Fr g L' _ _ => F11
    rename News g L' _ _ => N11
    rename_i lo5 ho5 lt5
    refine tell_useF (one_spec w _ l _ _ 0 (src_is N11 (by walk_at "my mem") hA2 hB21 hB22) (Nat.ne_of_gt (by walk_at "my lt")) (News.get N11 (List.Mem.head _)) (by simp) (by simp)) (by assumption) (by assumption) (by assumption) (by assumption) (by assumption) (by rfl) (by ktr_room) (by ktr_units) (foot1 (o := listOf #[.int A2 ta2, .int B2 tb2] n2) (by walk_at "my mem")) ?_
    intro v h12 tk12 F12 N12 K12 hP12
    obtain ⟨hv, hP12⟩ := hP12
    refine named (fun G9 hG9 => ?_)
    obtain ⟨sf, tsf, rfl, hsf⟩ := strs_mem (ys := sufL) (by unfold sufL; repeat (first | exact StrsAre.nil | refine StrsAre.cons _ _ ?_)) hv
    refine hG9 ?_
    clear hG9 G9
    have hsl := suf_len sf hsf
    clear hv hsf
    refine named (fun G9 hG9 => ?_)
    obtain ⟨A3, B3, ta3, tb3, n3, hA3, hB31, hB32, N13⟩ := src_next2 (rest := [(L' + 1, oc)]) (o := listOf #[.int A2 ta2, .int B2 tb2] n2) N12 (by walk_at "my mem") (fun p hp => by cases List.mem_singleton.mp hp; exact ⟨List.Mem.tail _ (List.Mem.tail _ (List.Mem.head _)), hll⟩) K12 hP12
    refine hG9 ?_
    clear hG9 G9
    clear N12 N11 F11
    have hTl : (jt ++ sf).length ≤ 90 := by rw [cat_len]; omega
    k_steps
    unfold Halt
    generalize jt ++ sf = T0 at *
    refine tell_use (write_type_spec w _ T0 _ (by omega)) (by assumption) (by assumption) (by assumption) (by assumption) (by assumption) (by rfl) (by ktr_room) (by ktr_units) ?_
    intro v h14 tk14 F14 N14 K14 hP14
    obtain ⟨tw, rfl⟩ := hP14
    have hwl := writeType_len T0 hTl
    refine named (fun G9 hG9 => ?_)
    obtain ⟨n0, ns, hwt, hj, hnl, hyl⟩ := type_words T0 hTl
    refine hG9 ?_
    clear hG9 G9
    rw [hwt] at hwl ⊢
    have hlx := lex_type n0 ns hyl
    have htx : (Txt.join (Str.ofString " ") ((n0 :: ns).map writeNameF) ++ Str.ofString " NOT").length ≤ 300 := by
      have e1 : (Str.ofString " NOT").length = 4 := by decide +kernel
      rw [cat_len, e1]; omega
    have hdl : ((n0 :: ns).map wordOf ++ [notW]).length ≤ 500 := by
      simp only [List.length_append, List.length_map, List.length_cons, List.length_nil] at hnl ⊢
      omega
    have htx5 := Nat.le_trans htx (show 300 ≤ 5000 by decide)
    clear hwt
    generalize Txt.join (Str.ofString " ") ((n0 :: ns).map writeNameF) = tx0 at *
    k_steps
    unfold Halt
    rename Fr _ _ _ _ => F15
    rename News _ _ _ _ => N15
    refine tell_use (read_words_spec w _ _ _ ((n0 :: ns).map wordOf ++ [notW]) htx5 hlx hdl) (by assumption) (by assumption) (by assumption) (by assumption) (by assumption) (by rfl) ?room ?units ?_
    case room => ktr_room
    case units =>
      have hcL9 := cLine_is
      simp only [units_under_make, units_in1, units_deeper]
      omega
    intro v h16 tk16 F16 N16 K16 hP16
    refine named (fun G9 hG9 => ?_)
    obtain ⟨lw, its, kk, made, rfl, hlm, hM, hW⟩ := hP16
    refine hG9 ?_
    clear hG9 G9
    have Nm := made_led F15 hM
    have hmx : ∀ q ∈ made, ∀ b o, (b, o) ∈ _ → q.1 ≠ b := fun q hq b o hb e => by
      have h1 := (hM q hq).2
      rw [e, (N15 (b, o) hb).1] at h1
      cases h1
    have hmd := fun q hq => hmx q hq _ _ (List.Mem.tail _ (List.Mem.head _))
    have N17 := news_app N16 Nm
    dsimp only [List.cons_append, List.nil_append] at N17
    clear N15 N16 hmx
    k_steps
    unfold Halt
    rename Fr g L' _ _ => F20
    rename News g L' _ _ => N20
    have hWA : WordsAre _ its.toList ((n0 :: ns).map wordOf ++ [notW] ++ [endW]) := ⟨hW.1, fun i v d h1 h2 => (hW.2 i v d h1 h2).is (news_sub N20 fun q hq => List.Mem.tail _ (List.Mem.tail _ (List.Mem.tail _ (List.Mem.tail _ (List.Mem.tail _ hq)))))⟩
    have hst := IsStream.mk (a := 0) (vs := its.toList) _ _ _ _ _ _ _ _ _ _ _ kk (N20.get (by walk_at "my mem")) (N20.get (by walk_at "my mem")) (by rw [Array.toArray_toList]; exact N20.get (List.Mem.tail _ (List.Mem.tail _ (List.Mem.tail _ (List.Mem.tail _ (List.Mem.tail _ hlm))))))
    have hml := N20.get (List.Mem.tail _ (List.Mem.tail _ (List.Mem.tail _ (List.Mem.head _))))
    refine tell_useF (read_type_spec w _ _ _ lw its.toList 0 _ [endW] _ notW (n0 :: ns) hst (by decide) hWA (by rw [List.drop_zero, List.append_assoc]; rfl) (vals_words _) hnl hyl (by simp) (fun d hd => by
      obtain ⟨z, _, rfl⟩ := List.mem_map.mp hd
      exact wordOf_plain z) not_plain not_paren) (by assumption) (by assumption) (by assumption) (by assumption) (by assumption) (by rfl) (by ktr_room) (by ktr_units) (fun q hq => by
      cases List.mem_singleton.mp hq
      exact ⟨_, List.Mem.tail _ (List.Mem.tail _ (List.Mem.head _))⟩) ?_
    intro v21 h21 tk21 F21 N21 K21 hP21
    obtain ⟨t21, rfl, hst2⟩ := hP21
    have hWA2 := hWA.off hst K21
    have hld := hst.apart hml
    have hls := K21 _ _ hld hml
    refine named (fun G9 hG9 => ?_)
    obtain ⟨_, _, _, _, _, _, _, _, _, _, _, _, he1, he2, _⟩ := id hst2
    refine hG9 ?_
    clear hG9 G9
    rw [hj]
    have hTT : (T0 == T0) = true := beq_self_eq_true T0
    have N22 : News g L' h21 [] := News.nil
    clear N21 N20
    k_steps
    unfold Halt
    obtain ⟨r23, hr23, hw23⟩ := hWA2.at (p := ((n0 :: ns).map wordOf).length) (d := notW) (rest := [endW]) (by rw [List.append_assoc, List.drop_left]; rfl)
    refine tell_use (s_is_key_spec w _ _ _ lw its.toList _ r23 notW (Str.ofString "NOT") _ hst2 (by omega) (by simp only [List.length_map, List.length_cons] at hnl ⊢; omega) (by simpa using hr23) hw23) (by assumption) (by assumption) (by assumption) (by assumption) (by assumption) (by rfl) (by ktr_room) (by ktr_units) ?_
    intro v24 h24 tk24 F24 N24 K24 hP24
    rw [not_key] at hP24
    subst hP24
    k_steps
    exact hret _ _ _ (Kp.fr F24) ⟨rfl, A3, B3, ta3, tb3, n3, hA3, hB31, hB32, K24.get hls⟩
end

theorem off_G8 : True := by w_top off; trivial
section
local macro_rules | `(tactic| walk_at "call ref") => `(tactic| (k_here; first | with_reducible refine halt_at 472 ?_ | with_reducible refine halt_at 479 ?_ | with_reducible refine halt_at 491 ?_ | with_reducible refine halt_at 283 ?_ | with_reducible refine halt_at 498 ?_ | with_reducible refine halt_at 263 ?_ | with_reducible refine halt_at 318 ?_ | with_reducible refine halt_at 339 ?_ | with_reducible refine halt_at 503 ?_ | with_reducible refine halt_at 508 ?_))
local macro_rules | `(tactic| walk_at "exec Assign cons ListComp") => `(tactic| (refine halt ?_))
local macro_rules | `(tactic| walk_at "CompSrc") => `(tactic| (refine halt ?_))
local macro_rules | `(tactic| walk_at "CompRest") => `(tactic| (refine halt ?_))
local macro_rules | `(tactic| walk_at "CompEnd") => `(tactic| (refine halt ?_))
local macro_rules | `(tactic| walk_at "eval ListComp") => `(tactic| (refine halt ?_))
local macro_rules | `(tactic| walk_at "CompSrcT") => `(tactic| (refine halt ?_))
local macro_rules | `(tactic| walk_at "CompRestT") => `(tactic| (refine halt ?_))
local macro_rules | `(tactic| walk_at "compareOp NotEq ref ref") => `(tactic| (refine halt ?_))
local macro_rules | `(tactic| k_inst) => `(tactic| exact ⟨by assumption, rfl, rfl, by assumption⟩)
local macro_rules | `(tactic| walk_at "my off") => `(tactic| (repeat (first | exact off_nil | (refine off_cons (by walk_at "my mem") (by walk_at "my lt") ?_))))
noncomputable abbrev nameTup (x : Str) (t : Tok) (n : Nat) : Obj := { cls := .type "tuple", data := .seq #[.str x t, .bool (isBareF x)] n }
inductive RowsN (nw : List (Addr × Obj)) : List Value → List Str → Prop
  | nil : RowsN nw [] []
  | cons (a : Addr) (t : Tok) (n : Nat) (x : Str) (vs : List Value) (xs : List Str) (m : (a, nameTup x t n) ∈ nw) (hl : x.length ≤ 20) (r : RowsN nw vs xs) : RowsN nw (.ref a :: vs) (x :: xs)
theorem RowsN.mono {nw nw' : List (Addr × Obj)} {vs : List Value} {xs : List Str} (h : ∀ q ∈ nw, q ∈ nw') (r : RowsN nw vs xs) : RowsN nw' vs xs := by
  induction r with
  | nil => exact .nil
  | cons a t n x vs xs m hl _ ih => exact .cons a t n x vs xs (h _ m) hl ih
theorem RowsN.snoc {nw : List (Addr × Obj)} {vs : List Value} {xs : List Str} {a : Addr} {t : Tok} {n : Nat} {x : Str} (r : RowsN nw vs xs) (m : (a, nameTup x t n) ∈ nw) (hl : x.length ≤ 20) : RowsN nw (vs ++ [.ref a]) (xs ++ [x]) := by
  induction r with
  | nil => exact .cons a t n x _ _ m hl .nil
  | cons b _ _ _ _ _ m' hl' _ ih => exact .cons _ _ _ _ _ _ m' hl' ih
theorem RowsN.len {nw : List (Addr × Obj)} {vs : List Value} {xs : List Str} (r : RowsN nw vs xs) : vs.length = xs.length := by
  induction r with
  | nil => rfl
  | cons _ _ _ _ _ _ _ _ _ ih => simp [ih]
inductive RowN (nw : List (Addr × Obj)) (xs : List Str) (i : Nat) (v : Value) : Prop
  | mk (a : Addr) (t : Tok) (n : Nat) (x : Str) (e : v = .ref a) (m : (a, nameTup x t n) ∈ nw) (hl : x.length ≤ 20) (hx : xs[i]? = some x) : RowN nw xs i v
theorem RowsN.at {nw : List (Addr × Obj)} {vs : List Value} {xs : List Str} (r : RowsN nw vs xs) : ∀ {i : Nat} {v : Value}, vs[i]? = some v → RowN nw xs i v := by
  induction r with
  | nil => intro i v e; simp at e
  | cons a t n x vs xs m hl _ ih =>
    intro i v e
    cases i with
    | zero => simp at e; exact ⟨a, t, n, x, e.symm, m, hl, rfl⟩
    | succ i =>
      refine named (fun G9 hG9 => ?_)
      obtain ⟨a', t', n', x', e', m', hl', hx'⟩ := ih (i := i) (by simpa using e)
      refine hG9 ?_
      clear hG9 G9
      exact ⟨a', t', n', x', e', m', hl', by simpa using hx'⟩
inductive JRows (l : Addr) (c : Addr × Obj) (i : Nat) (acc : List Value) : List (Addr × Obj) → Prop
  | mk (A B : Int) (ta tb : Tok) (n : Nat) (a : 0 ≤ A) (b : 0 ≤ B) (e : B < 2147483647) (made : List (Addr × Obj)) (zs : List Str) (hr : RowsN made acc zs) (hz : zs.length = i) (hm : ∀ q ∈ made, q.1 ≠ l) : JRows l c i acc ((l, listOf #[.int A ta, .int B tb] n) :: c :: made)
theorem RowsN.short {nw : List (Addr × Obj)} {vs : List Value} {xs : List Str} (r : RowsN nw vs xs) : ∀ x ∈ xs, x.length ≤ 20 := by
  induction r with
  | nil => intro x hx; cases hx
  | cons a t n x vs xs m hl _ ih =>
    intro y hy
    rcases List.mem_cons.mp hy with rfl | hy
    · exact hl
    · exact ih y hy
theorem strs_take {vs : List Value} {ys : List Str} (h : StrsAre vs ys) : ∀ k, StrsAre (vs.take k) (ys.take k) := by
  induction h with
  | nil => intro k; rw [List.take_nil, List.take_nil]; exact .nil
  | cons x t _ ih =>
    intro k
    cases k with
    | zero => exact .nil
    | succ k => exact .cons x t (ih k)
theorem pick_names {vs : List Value} {d : Int} (h : vs.length = 3) (h0 : 0 ≤ d) (h1 : d < 3) : slicePick vs.toArray none (some (1 + d)) none = (vs.take (1 + d).toNat).toArray := by
  rcases (by omega : d = 0 ∨ d = 1 ∨ d = 2) with rfl | rfl | rfl
  · rw [kmk_pick_nat vs.toArray (a := 0) (b := 1) (by rw [List.size_toArray, h]; rfl)]; rfl
  · rw [kmk_pick_nat vs.toArray (a := 0) (b := 2) (by rw [List.size_toArray, h]; rfl)]; rfl
  · rw [kmk_pick_nat vs.toArray (a := 0) (b := 3) (by rw [List.size_toArray, h]; rfl)]; rfl
theorem writeNames_len (ns : List Str) (h : ns.length ≤ 3) (hl : ∀ m ∈ ns, m.length ≤ 20) : (writeNamesF ns).length ≤ 200 := by
  have e1 : (Str.ofString "(").length = 1 := by decide +kernel
  have e2 : (Str.ofString ")").length = 1 := by decide +kernel
  have e3 : (Str.ofString ", ").length = 2 := by decide +kernel
  have h1 := join_len_le (Str.ofString ", ") (ns.map writeNameF)
  have h2 := sumLe 42 (ns.map writeNameF) (fun y hy => by
    obtain ⟨x, hx, rfl⟩ := List.mem_map.mp hy
    have := writeName_len x
    have := hl x hx
    omega)
  rw [List.length_map] at h1 h2
  unfold writeNamesF
  rw [cat_len, cat_len, e1, e2]
  rw [e3] at h1
  omega
theorem IsStream.offCell {h : Heap} {x dx lw c : Addr} {vs : List Value} {a : Int} {oc : Obj} {v : Option Value} (i : IsStream h x dx lw vs a) (e : h.get? c = some oc) (d : oc.data = .cell v) : c ∉ [dx] := fun hq => by
  refine named (fun G9 hG9 => ?_)
  obtain ⟨h1, h2, h3, h4, t1, t2, t3, t4, ta, tx, hv, n, e1, e2, e3⟩ := i
  refine hG9 ?_
  clear hG9 G9
  rw [List.mem_singleton.mp hq, e2] at e
  rw [← Option.some.inj e] at d
  cases d
theorem right_spec (w : World) (s : Shared) (l : Addr) (hS : IsSrc s.heap l) :
   Tell w 30 513 [.ref l] [l] s (fun r h' => r = .bool true ∧ IsSrc h' l) := by
  refine named (fun G9 hG9 => ?_)
  obtain ⟨A, B0, ta, tb, n, hA, hB1, hB2, e1⟩ := hS
  refine hG9 ?_
  clear hG9 G9
  unfold Tell
  k_fill
  intro dp un gd cn cs fa ccd cl outer A₀ base h₀ L m mean mg mb news Q E B F X N T hk hf hd hu hret
  have N1 := news_foot N hf (List.mem_singleton.mpr rfl) e1 News.nil
  refine wpAny_call ?_
  k_dflt (refine' enterC (binds := [(Str.ofString "source", .ref l)]) ?k1 ?k2 ?k3 ?k4 ?k5 ?kA ?kF ?kK ?k6 ?k7 ?k8 ?k9 ?kB ?kD ?_ ?c2 ?c3 ?c4; (case kA => exact rfl); (case kF => exact rfl); (case kK => assumption); (case k1 => k_asm); (case k2 => k_asm); (case k3 => k_asm); (case k4 => exact N1); (case k5 => k_asm); (case k6 => k_is); (case k7 => k_is); (case k8 => ktr_room); (case k9 => exact BindsTo.of_eq rfl); (case kB => exact rfl); (case kD => decide +kernel); (case c2 => exact rfl); (case c3 => exact rfl); (case c4 => exact rfl); k_whole)
  intro g L' h₁ tk₁ cells' Kp F' N' Y' B' X' T' l1
  (try k_lt l1)
  k_cells Y'
  (try simp only [List.cons_append, List.nil_append] at N')
  (try dsimp only)
  (try k_lift B')
  refine wpAny_gen (fun R0 hR0 => ?_)
  replace hret := fun r h' tk' k p => hR0 (.ok (.ret r)) _ (hret r h' tk' k p)
  clear hR0
  (try k_fold)

  k_steps
  unfold Halt
  rename Fr g L' _ _ => F2
  refine LCg.Assign_ListComp_U (F₀ := F2) (by rfl) (by with_unfolding_all rfl) (by with_unfolding_all rfl) (by decide) (by rfl) (by decide) (by rfl) (by rfl) (by rfl) ?_
  rename_i oc dc
  have hll : @Ne Nat (L' + 1) l := Nat.ne_of_gt (Nat.lt_succ_of_lt l1)
  k_steps
  unfold Halt
  rename IsRange _ _ _ _ _ _ _ _ => r9
  rename Fr g L' _ _ => F5
  rename News g L' _ _ => N5
  refine LCg.CompSrc.range (n := 3) (by rfl) F5 (news_sub N5 (news' := [(l, listOf #[.int A ta, .int B0 tb] n), (L' + 1, oc)]) (fun q hq => by
    rcases List.mem_cons.mp hq with rfl | hq
    · walk_at "my mem"
    · cases List.mem_singleton.mp hq
      walk_at "my mem")) r9 (small_one (by decide) (by decide) (by omega) (by omega)) (by decide) (Nat.le_trans (by omega) sizeLine_ge) ?_
  intro g'
  refine rest_u (JRows l (L' + 1, oc)) (JRows.mk _ _ _ _ _ hA hB1 hB2 [] [] .nil rfl (by simp)) ?_ ?_
  · clear N5 F5
    rintro i k' acc nw hi ⟨A2, B2, ta2, tb2, n2, hA2, hB21, hB22, made, zs, hr, hz, hm⟩ ih
    refine LCg.CompRest.succ ?_
    intro v' I' oI' C' oC' D' m' h' tk' E' hv' hC' hx' F' N' off' ne'
    obtain ⟨t9, rfl⟩ := hv'
    k_steps
    unfold Halt
    refine tell_useF (name_spec w _ l (src_is N' (List.Mem.tail _ (List.Mem.tail _ (List.Mem.tail _ (List.Mem.head _)))) hA2 hB21 hB22)) (by assumption) (by assumption) (by assumption) (by assumption) (by assumption) (by rfl) (by ktr_room) (by ktr_units) (foot1 (o := listOf #[.int A2 ta2, .int B2 tb2] n2) (List.Mem.tail _ (List.Mem.tail _ (List.Mem.tail _ (List.Mem.head _))))) ?_
    intro v h6 tk6 F6 N6 K6 hP6
    refine named (fun G9 hG9 => ?_)
    obtain ⟨⟨a, nm, tn, n9, rfl, hget, hfr, hlen⟩, hP6⟩ := hP6
    refine hG9 ?_
    clear hG9 G9
    obtain ⟨A3, B3, ta3, tb3, n3, hA3, hB31, hB32, N7⟩ := src_next2 (rest := (I', oI') :: (C', oC') :: (D', LCg.lst acc) :: (L' + 1, oc) :: made) (o := listOf #[.int A2 ta2, .int B2 tb2] n2) N6 (List.Mem.tail _ (List.Mem.tail _ (List.Mem.tail _ (List.Mem.head _)))) (fun p hp => by
      rcases List.mem_cons.mp hp with rfl | hp
      · exact ⟨List.Mem.head _, Ne.symm off'.1.1⟩
      rcases List.mem_cons.mp hp with rfl | hp
      · exact ⟨List.Mem.tail _ (List.Mem.head _), Ne.symm off'.1.2.1⟩
      rcases List.mem_cons.mp hp with rfl | hp
      · exact ⟨List.Mem.tail _ (List.Mem.tail _ (List.Mem.head _)), Ne.symm off'.1.2.2⟩
      rcases List.mem_cons.mp hp with rfl | hp
      · exact ⟨List.Mem.tail _ (List.Mem.tail _ (List.Mem.tail _ (List.Mem.tail _ (List.Mem.head _)))), hll⟩
      · exact ⟨List.Mem.tail _ (List.Mem.tail _ (List.Mem.tail _ (List.Mem.tail _ (List.Mem.tail _ hp)))), hm p hp⟩) K6 hP6
    have hne : ∀ b o, (b, o) ∈ (I', oI') :: (C', oC') :: (D', LCg.lst acc) :: (l, listOf #[.int A2 ta2, .int B2 tb2] n2) :: (L' + 1, oc) :: made → @Ne Nat a b := by
      intro b o hq e
      have h1 := (N' _ hq).1
      have e2 : a = b := e
      rw [← e2, show h'.get? a = none from hfr] at h1
      cases h1
    have N8 := news_new F' hfr hget N7
    clear N6 N7
    k_steps
    unfold Halt
    rename Fr g L' _ _ => Fz
    rename News g L' _ _ => Nz
    refine LCg.CompEnd.intro Fz Nz ((l, listOf #[.int A3 ta3, .int B3 tb3] n3) :: (L' + 1, oc) :: (a, nameTup nm tn n9) :: made) ?_ ⟨off'.1, off'.2.1, ⟨hne _ _ (List.Mem.head _), hne _ _ (List.Mem.tail _ (List.Mem.head _)), hne _ _ (List.Mem.tail _ (List.Mem.tail _ (List.Mem.head _)))⟩, off'.2.2⟩ trivial
      (ih _ _ (JRows.mk _ _ _ _ _ hA3 hB31 hB32 _ (zs ++ [nm]) ((hr.mono fun q hq => List.Mem.tail _ hq).snoc (List.Mem.head _) hlen) (by simp [hz]) ?_))
    · intro q hq
      rcases List.mem_cons.mp hq with rfl | hq
      · exact List.Mem.tail _ (List.Mem.tail _ (List.Mem.head _))
      rcases List.mem_cons.mp hq with rfl | hq
      · exact List.Mem.tail _ (List.Mem.tail _ (List.Mem.tail _ (List.Mem.head _)))
      rcases List.mem_cons.mp hq with rfl | hq
      · exact List.Mem.tail _ (List.Mem.tail _ (List.Mem.tail _ (List.Mem.tail _ (List.Mem.head _))))
      rcases List.mem_cons.mp hq with rfl | hq
      · exact List.Mem.tail _ (List.Mem.head _)
      rcases List.mem_cons.mp hq with rfl | hq
      · exact List.Mem.tail _ (List.Mem.tail _ (List.Mem.tail _ (List.Mem.tail _ (List.Mem.tail _ (List.Mem.head _)))))
      rcases List.mem_cons.mp hq with rfl | hq
      · exact List.Mem.head _
      · exact List.Mem.tail _ (List.Mem.tail _ (List.Mem.tail _ (List.Mem.tail _ (List.Mem.tail _ (List.Mem.tail _ hq)))))
    · intro q hq
      rcases List.mem_cons.mp hq with rfl | hq
      · exact hne _ _ (List.Mem.tail _ (List.Mem.tail _ (List.Mem.tail _ (List.Mem.head _))))
      · exact hm q hq
  · clear N5 F5
    rintro acc nw ⟨A2, B2, ta2, tb2, n2, hA2, hB21, hB22, made, zs, hr, hz, hm⟩
    intro D h9 tk9 F9 N9 off9
    k_steps
    unfold Halt
    refine LCt.ListComp_T (F₀ := F9) (by with_unfolding_all rfl) (by decide) (by rfl) (by decide) (by rfl) ?_
    have hal : acc.toArray.size = 3 := by have := hr.len; simp; omega
    k_steps
    unfold Halt
    refine LCt.CompSrcT.ledger (by rfl) F9 N9 (List.Mem.head _) (Nat.le_trans (Nat.le_of_eq hal) (Nat.le_trans (by omega) sizeLine_ge)) ?_
    intro g2
    refine rest_t (fun i acc2 nw => nw = (D, LCg.lst acc) :: (l, listOf #[.int A2 ta2, .int B2 tb2] n2) :: (L' + 1, oc) :: made ∧ acc2 = []) ⟨rfl, rfl⟩ ?_ ?_
    · rintro i k' acc2 nw hi ⟨rfl, rfl⟩ ih
      refine LCt.CompRestT.succ ?_
      intro v' I' oI' C' oC' D' m' h' tk' E' hv' hC' hx' F' N' off' ne'
      refine named (fun G9 hG9 => ?_)
      obtain ⟨a, t, n9, x, rfl, hm1, hl1, hx1⟩ := hr.at (by simpa using hv')
      refine hG9 ?_
      clear hG9 G9
      have N2 : News g L' h' ((a, nameTup x t n9) :: (I', oI') :: (C', oC') :: (D', LCg.lst []) :: (D, LCg.lst acc) :: (l, listOf #[.int A2 ta2, .int B2 tb2] n2) :: (L' + 1, oc) :: made) := fun q hq => by
        rcases List.mem_cons.mp hq with rfl | hq
        · exact N' _ (List.Mem.tail _ (List.Mem.tail _ (List.Mem.tail _ (List.Mem.tail _ (List.Mem.tail _ (List.Mem.tail _ hm1))))))
        · exact N' _ hq
      clear N'
      k_steps
      unfold Halt
      refine tell_use (name_right_spec w _ x _ (by omega) (lex_one x (by omega))) (by assumption) (by assumption) (by assumption) (by assumption) (by assumption) (by rfl) (by ktr_room) (by ktr_units) ?_
      intro v h6 tk6 F6 N6 K6 hP6
      subst hP6
      k_steps
      unfold Halt
      rename Fr g L' _ _ => Fz
      rename News g L' _ _ => Nz
      exact LCg.CompEnd.intro Fz Nz _ (fun p hp => List.Mem.tail _ hp) off' (.inr ⟨_, List.Mem.head _, rfl, _, rfl⟩) (ih _ _ ⟨rfl, rfl⟩)
    · rintro acc2 nw ⟨rfl, rfl⟩
      intro D2 h10 tk10 F10 N10 off10
      clear N9 F9
      k_steps
      unfold Halt
      rename News g L' _ _ => N11
      refine ne_nil (isList_of (n := 0) (N11.get (List.Mem.tail _ (List.Mem.head _)))) (isList_of (N11.get (List.Mem.head _))) (by ktr_units) ?_
      k_steps
      unfold Halt
      rename Fr g L' _ _ => F12
      have N12 := news_sub N11 (news' := (D, LCg.lst acc) :: (l, listOf #[.int A2 ta2, .int B2 tb2] n2) :: (L' + 1, oc) :: made) (fun q hq => List.Mem.tail _ (List.Mem.tail _ hq))
      clear N11
      refine LCg.ListComp_U (F₀ := F12) (by with_unfolding_all rfl) (by decide) (by rfl) (by decide) (by rfl) ?_
      k_steps
      unfold Halt
      refine LCg.CompSrc.ledger (by rfl) F12 N12 (List.Mem.head _) (Nat.le_trans (Nat.le_of_eq hal) (Nat.le_trans (by omega) sizeLine_ge)) ?_
      intro g3
      refine rest_u (fun i acc3 nw => nw = (D, LCg.lst acc) :: (l, listOf #[.int A2 ta2, .int B2 tb2] n2) :: (L' + 1, oc) :: made ∧ StrsAre acc3 (zs.take i)) ⟨rfl, by rw [List.take_zero]; exact .nil⟩ ?_ ?_
      · rintro i k' acc3 nw hi ⟨rfl, ha⟩ ih
        refine LCg.CompRest.succ ?_
        intro v' I' oI' C' oC' D' m' h' tk' E' hv' hC' hx' F' N' off' ne'
        refine named (fun G9 hG9 => ?_)
        obtain ⟨a, t, n9, x, rfl, hm1, hl1, hx1⟩ := hr.at (by simpa using hv')
        refine hG9 ?_
        clear hG9 G9
        have N2 : News g L' h' ((a, nameTup x t n9) :: (I', oI') :: (C', oC') :: (D', LCg.lst acc3) :: (D, LCg.lst acc) :: (l, listOf #[.int A2 ta2, .int B2 tb2] n2) :: (L' + 1, oc) :: made) := fun q hq => by
          rcases List.mem_cons.mp hq with rfl | hq
          · exact N' _ (List.Mem.tail _ (List.Mem.tail _ (List.Mem.tail _ (List.Mem.tail _ (List.Mem.tail _ (List.Mem.tail _ hm1))))))
          · exact N' _ hq
        clear N'
        k_steps
        unfold Halt
        rename Fr g L' _ _ => Fz
        rename News g L' _ _ => Nz
        refine LCg.CompEnd.intro Fz Nz _ (fun p hp => List.Mem.tail _ hp) off' (.inr ⟨_, List.Mem.head _, rfl, _, rfl⟩) (ih _ _ ⟨rfl, ?_⟩)
        rw [List.take_add_one, hx1]
        exact strs_app ha
      · rintro acc3 nw ⟨rfl, ha⟩
        intro D3 h13 tk13 F13 N13 off13
        have ha3 : StrsAre acc3 zs := by
          rw [hal, List.take_of_length_le (by omega)] at ha
          exact ha
        have N14 := news_sub N13 (news' := [(D3, LCg.lst acc3), (l, listOf #[.int A2 ta2, .int B2 tb2] n2), (L' + 1, oc)]) (fun q hq => by
          rcases List.mem_cons.mp hq with rfl | hq
          · exact List.Mem.head _
          rcases List.mem_cons.mp hq with rfl | hq
          · exact List.Mem.tail _ (List.Mem.tail _ (List.Mem.head _))
          · cases List.mem_singleton.mp hq
            exact List.Mem.tail _ (List.Mem.tail _ (List.Mem.tail _ (List.Mem.head _))))
        clear N13
        k_steps
        unfold Halt
        refine tell_useF (take_spec w _ l _ _ (src_is N14 (by walk_at "my mem") hA2 hB21 hB22) (by omega) (by omega)) (by assumption) (by assumption) (by assumption) (by assumption) (by assumption) (by rfl) (by ktr_room) (by ktr_units) (foot1 (o := listOf #[.int A2 ta2, .int B2 tb2] n2) (by walk_at "my mem")) ?_
        intro v h15 tk15 F15 N15 K15 hP15
        refine named (fun G9 hG9 => ?_)
        obtain ⟨⟨d, t', rfl, hd0, hd1⟩, hP15⟩ := hP15
        refine hG9 ?_
        clear hG9 G9
        have hD3 : @Ne Nat D3 l := Ne.symm off13.2.1
        obtain ⟨A3, B3, ta3, tb3, n3, hA3, hB31, hB32, N16⟩ := src_next2 (rest := [(D3, LCg.lst acc3), (L' + 1, oc)]) (o := listOf #[.int A2 ta2, .int B2 tb2] n2) N15 (by walk_at "my mem") (fun p hp => by
          rcases List.mem_cons.mp hp with rfl | hp
          · exact ⟨List.Mem.head _, hD3⟩
          · cases List.mem_singleton.mp hp
            exact ⟨List.Mem.tail _ (List.Mem.tail _ (List.Mem.head _)), hll⟩) K15 hP15
        clear N15 N14
        have hal3 : acc3.length = 3 := by have := strs_len2 ha3; omega
        k_steps
        unfold Halt
        rename News g L' _ _ => N17
        rw [pick_names hal3 hd0 hd1] at N17
        rename Fr g L' _ _ => F17
        dsimp only at N17 F17 ⊢
        generalize h15.objs.size + 1 = DN at *
        obtain ⟨n0, ns, hn0⟩ : ∃ n0 ns, zs.take (1 + d).toNat = n0 :: ns := by
          cases hc : zs.take (1 + d).toNat with
          | nil =>
            have := congrArg List.length hc
            rw [List.length_take] at this
            simp only [List.length_nil] at this
            omega
          | cons n0 ns => exact ⟨n0, ns, rfl⟩
        have hst0 := strs_take ha3 (1 + d).toNat
        rw [hn0] at hst0
        have hnl : (n0 :: ns).length ≤ 3 := by rw [← hn0, List.length_take]; omega
        have hny : ∀ y ∈ n0 :: ns, y.length ≤ 20 := fun y hy => hr.short y (List.mem_of_mem_take (by rw [hn0]; exact hy))
        have hny2 : ∀ y ∈ n0 :: ns, y.length ≤ 1000 := fun y hy => Nat.le_trans (hny y hy) (by decide)
        have hwl := writeNames_len _ hnl hny
        refine tell_use (write_names_spec w _ _ _ 0 (n0 :: ns) (N17.get (List.Mem.head _)) hst0 (by omega) hny2) (by assumption) (by assumption) (by assumption) (by assumption) (by assumption) (by rfl) (by ktr_room) (by ktr_units) ?_
        intro v18 h18 tk18 F18 N18 K18 hP18
        obtain ⟨t18, rfl⟩ := hP18
        have hlx := lex_names n0 ns hny2
        have htx5 : (writeNamesF (n0 :: ns) ++ Str.ofString "x").length ≤ 5000 := by
          have e1 : (Str.ofString "x").length = 1 := by decide +kernel
          rw [cat_len, e1]; omega
        have hafl : ∀ l : List Str, (after l).length = 2 * l.length + 1 := fun l => by
          induction l with
          | nil => rfl
          | cons a l ih => simp only [after, List.length_cons, ih]; omega
        have hdl : (sgn "(" :: wordOf n0 :: (after ns ++ [xW])).length ≤ 500 := by
          simp only [List.length_append, List.length_cons, List.length_nil, hafl] at hnl ⊢
          omega
        generalize writeNamesF (n0 :: ns) = tx0 at *
        clear N17 F17
        k_steps
        unfold Halt
        rename Fr _ _ _ _ => F19
        rename News _ _ _ _ => N19
        refine tell_use (read_words_spec w _ _ _ (sgn "(" :: wordOf n0 :: (after ns ++ [xW])) htx5 hlx hdl) (by assumption) (by assumption) (by assumption) (by assumption) (by assumption) (by rfl) ?room ?units ?_
        case room => ktr_room
        case units =>
          have hcL9 := cLine_is
          simp only [units_under_make, units_in1, units_deeper]
          omega
        intro v20 h20 tk20 F20 N20 K20 hP20
        refine named (fun G9 hG9 => ?_)
        obtain ⟨lw, its, kk, made2, rfl, hlm, hM, hW⟩ := hP20
        refine hG9 ?_
        clear hG9 G9
        have Nm := made_led F19 hM
        have hmx : ∀ q ∈ made2, ∀ b o, (b, o) ∈ _ → q.1 ≠ b := fun q hq b o hb e => by
          have h1 := (hM q hq).2
          rw [e, (N19 (b, o) hb).1] at h1
          cases h1
        have hmd := fun q hq => hmx q hq _ _ (List.Mem.tail _ (List.Mem.head _))
        have N21 := news_app N20 Nm
        dsimp only [List.cons_append, List.nil_append] at N21
        clear N19 N20 hmx
        k_steps
        unfold Halt
        rename Fr g L' _ _ => F22
        rename News g L' _ _ => N22
        have up : ∀ (x1 x2 x3 x4 x5 x6 x7 : Addr × Obj), ∀ q ∈ made2, q ∈ x1 :: x2 :: x3 :: x4 :: x5 :: x6 :: x7 :: made2 := fun _ _ _ _ _ _ _ q hq => List.Mem.tail _ (List.Mem.tail _ (List.Mem.tail _ (List.Mem.tail _ (List.Mem.tail _ (List.Mem.tail _ (List.Mem.tail _ hq))))))
        have hWA : WordsAre _ its.toList (sgn "(" :: wordOf n0 :: (after ns ++ [xW]) ++ [endW]) := ⟨hW.1, fun i v d h1 h2 => (hW.2 i v d h1 h2).is (news_sub N22 (up _ _ _ _ _ _ _))⟩
        have hst := IsStream.mk (a := 0) (vs := its.toList) _ _ _ _ _ _ _ _ _ _ _ kk (N22.get (by walk_at "my mem")) (N22.get (by walk_at "my mem")) (by rw [Array.toArray_toList]; exact N22.get (up _ _ _ _ _ _ _ _ hlm))
        have hml := N22.get (List.Mem.tail _ (List.Mem.tail _ (List.Mem.tail _ (List.Mem.tail _ (List.Mem.head _)))))
        have hmn := N22.get (List.Mem.tail _ (List.Mem.tail _ (List.Mem.tail _ (List.Mem.head _))))
        refine tell_useF (read_names_spec w _ _ _ lw its.toList 0 _ [xW, endW] n0 ns hst (by decide) hWA (by simp only [List.length_cons] at hnl; omega) (by rw [List.drop_zero]; simp)) (by assumption) (by assumption) (by assumption) (by assumption) (by assumption) (by rfl) (by ktr_room) (by ktr_units) (fun q hq => by
          cases List.mem_singleton.mp hq
          exact ⟨_, List.Mem.tail _ (List.Mem.tail _ (List.Mem.head _))⟩) ?_
        intro v23 h23 tk23 F23 N23 K23 hP23
        refine named (fun G9 hG9 => ?_)
        obtain ⟨ln, itn, kn, rfl, hln, hsn, hfn, hst2⟩ := hP23
        refine hG9 ?_
        clear hG9 G9
        have hWA2 := hWA.off hst K23
        have hls := K23 _ _ (hst.apart hml) hml
        have hns := K23 _ _ (hst.apart hmn) hmn
        refine named (fun G9 hG9 => ?_)
        obtain ⟨_, _, _, _, _, _, _, _, _, _, _, _, he1, he2, _⟩ := id hst2
        refine hG9 ?_
        clear hG9 G9
        have hcm := N22.get (by walk_at "my mem" : (L' + 1, oc) ∈ _)
        have N24 : News g L' h23 [(l, listOf #[.int A3 ta3, .int B3 tb3] n3), (L' + 1, oc)] := fun q hq => by
          rcases List.mem_cons.mp hq with rfl | hq
          · exact ⟨hls, (N22 _ (List.Mem.tail _ (List.Mem.tail _ (List.Mem.tail _ (List.Mem.tail _ (List.Mem.head _)))))).2⟩
          · cases List.mem_singleton.mp hq
            exact ⟨K23 _ _ (hst.offCell hcm dc) hcm, (N22 (L' + 1, oc) (by walk_at "my mem")).2⟩
        clear N22 N23
        k_steps
        unfold Halt
        refine ne_strs (isList_of hln) (isList_of (n := 0) hns) hsn hst0 (by ktr_units) ?_
        k_steps
        unfold Halt
        obtain ⟨r25, hr25, hw25⟩ := hWA2.at (p := 1 + 2 * (n0 :: ns).length) (d := xW) (rest := [endW]) (by
          have hl : (sgn "(" :: wordOf n0 :: after ns).length = 1 + 2 * (n0 :: ns).length := by simp only [List.length_cons, hafl]; omega
          rw [show sgn "(" :: wordOf n0 :: (after ns ++ [xW]) ++ [endW] = (sgn "(" :: wordOf n0 :: after ns) ++ ([xW] ++ [endW]) by simp, List.drop_left' hl]
          rfl)
        refine tell_use (here_spec w _ _ _ lw its.toList _ r25 hst2 (by omega) (by simp only [List.length_cons] at hnl ⊢; omega) (by
          rw [show (((0 : Nat) : Int) + 1 + 2 * (((n0 :: ns).length : Nat) : Int)).toNat = 1 + 2 * (n0 :: ns).length by omega]
          exact hr25)) (by assumption) (by assumption) (by assumption) (by assumption) (by assumption) (by rfl) (by ktr_room) (by ktr_units) ?_
        intro v26 h26 tk26 F26 N26 K26 hP26
        subst hP26
        refine named (fun G9 hG9 => ?_)
        obtain ⟨wx, wd, y1, y2, y3, y4, z1, z2, z3, z4, za, zb, wv, wp, rfl, f1, f2, hvv⟩ := hw25.keeps K26.to
        refine hG9 ?_
        clear hG9 G9
        obtain ⟨tv, rfl⟩ := VIs.strs hvv
        dsimp only [wordEs] at f2
        k_steps
        unfold Halt
        rename Fr g L' _ _ => F27
        rename News g L' _ _ => N27
        refine tell_useF (value_right_spec w _ l (src_is N27 (List.Mem.head _) hA3 hB31 hB32)) (by assumption) (by assumption) (by assumption) (by assumption) (by assumption) (by rfl) (by show dp + 1 + 20 < recursionLimit; omega) (by have hcL9 := cLine_is; show un + 3 + 8 * 20 < cLine; omega) (foot1 (o := listOf #[.int A3 ta3, .int B3 tb3] n3) (List.Mem.head _)) ?_
        intro v28 h28 tk28 F28 N28 K28 hP28
        obtain ⟨rfl, hP28⟩ := hP28
        obtain ⟨A4, B4, ta4, tb4, n4, hA4, hB41, hB42, N29⟩ := src_next2 (rest := [(L' + 1, oc)]) (o := listOf #[.int A3 ta3, .int B3 tb3] n3) N28 (List.Mem.head _) (fun p hp => by
          cases List.mem_singleton.mp hp
          exact ⟨List.Mem.tail _ (List.Mem.head _), hll⟩) K28 hP28
        clear N28 N27
        k_steps
        unfold Halt
        rename Fr g L' _ _ => F30
        rename News g L' _ _ => N30
        refine tell_useF (type_right_spec w _ l (src_is N30 (List.Mem.head _) hA4 hB41 hB42)) (by assumption) (by assumption) (by assumption) (by assumption) (by assumption) (by rfl) (by show dp + 1 + 24 < recursionLimit; omega) (by have hcL9 := cLine_is; show un + 3 + 8 * 24 < cLine; omega) (foot1 (o := listOf #[.int A4 ta4, .int B4 tb4] n4) (List.Mem.head _)) ?_
        intro v31 h31 tk31 F31 N31 K31 hP31
        obtain ⟨rfl, hP31⟩ := hP31
        clear N31 N30
        have N32 : News g L' h31 [] := News.nil
        k_steps
        exact hret _ _ _ (Kp.fr F31) ⟨rfl, hP31⟩
end

theorem off_G9 : True := by w_top off; trivial
section
theorem big_nonneg (x : Int) (c : Bool) : 0 ≤ (if -1 - x > x then -1 - x else x) * (if c = true then 1 else 0) := by
  refine Int.mul_nonneg ?_ ?_
  · split <;> omega
  · split <;> decide
theorem pool_spec (w : World) (s : Shared) (lst : Addr) (vs : List Value) (ns : List Int) (k : Int) (t : Tok) (hl : s.heap.IsList lst vs.toArray) (hI : IntsAre vs ns) (hn : ns.length ≤ 63) (h0 : 0 ≤ k) (h1 : k ≤ 1) :
   Tell w 2 465 [.ref lst, .int k t] [] s (fun r h' => ∃ a, r = .ref a ∧ IsSrc h' a ∧ s.heap.get? a = none) := by
  unfold Tell
  k_fill
  intro dp un gd cn cs fa ccd cl outer A₀ base h₀ L m mean mg mb news Q E B F X N T hk hf hd hu hret
  have N1 : News h₀ L s.heap [] := News.nil
  refine wpAny_call ?_
  k_dflt (refine' enterM (binds := [(Str.ofString "script", .ref lst), (Str.ofString "k", .int k t)]) ?k1 ?k2 ?k3 ?k4 ?k5 ?kA ?kF ?kK ?k6 ?k7 ?k8 ?k9 ?kB ?_ ?c2 ?c3 ?c4 ?c5; (case kA => exact rfl); (case kF => exact rfl); (case kK => assumption); (case k1 => k_asm); (case k2 => k_asm); (case k3 => k_asm); (case k4 => exact N1); (case k5 => k_asm); (case k6 => k_is); (case k7 => k_is); (case k8 => ktr_room); (case k9 => exact BindsTo.of_eq rfl); (case c5 => decide); (case kB => exact locs rfl); (case c2 => exact rfl); (case c3 => exact rfl); (case c4 => exact rfl); k_whole)
  intro g L' h₁ tk₁ Kp F' N' B' X' T' l1
  (try k_lt l1)
  (try dsimp only)
  (try k_lift B')
  refine wpAny_gen (fun R0 hR0 => ?_)
  replace hret := fun r h' tk' k p => hR0 (.ok (.ret r)) _ (hret r h' tk' k p)
  clear hR0
  (try k_fold)

  have hl2 : g.IsList lst vs.toArray := by
    obtain ⟨o, ho, hr⟩ := hl
    exact ⟨o, Kp.get ho, hr⟩
  k_steps
  all_goals
    rename News g L' _ _ => Nb
    rename Fr g L' _ _ => Fb
    exact hret _ _ _ (Kp.fr Fb) ⟨_, rfl, ⟨_, _, _, _, _, big_nonneg _ _, fm0 _ (by decide), fm1 _ (by decide), Nb.get (List.Mem.head _)⟩, fresh_of Kp (by simp) (Nb _ (List.Mem.head _)).2.2⟩
end

theorem off_Hz : True := by w_top off; trivial
section
local macro_rules | `(tactic| walk_at "no such key") => `(tactic| skip)
theorem iter_range {w : World} {A : Around} {E : Value → Shared → Prop} {s : Shared} {env : Env} {h₀ : Heap} {x : Str} {body : List Stmt} {Q : Flow → Shared → Prop}
    {R : Addr} {N : Int} {t u v : Tok} {m₀ : Str → Option Value} {news : List (Addr × Obj)} (J : (Str → Option Value) → Prop)
    (hh : A.handled = none) (hR : IsRange s.heap R 0 N 1 t u v) (hN0 : 0 ≤ N) (hN1 : N ≤ 20) (F : Fr h₀ env.locals s.heap m₀) (hn : News h₀ env.locals s.heap news) (hj : J m₀)
    (turn : ∀ (k : Int) tk' m₁ h tk own, 0 ≤ k → k < N → OwnOff own (news.map (·.1)) → J m₁ →
      Fr h₀ env.locals h (fun y => if y = x then some (.int k tk') else m₁ y) → News h₀ env.locals h (news ++ own) →
      wpAny (model P0 w) A (execs body env) (InvPostN h₀ env.locals (fun m nx => nx = news ∧ J m) own (news.map (·.1)) { s with heap := h, toks := tk } Q) E { s with heap := h, toks := tk })
    (done : ∀ m₁ h tk, J m₁ → Fr h₀ env.locals h m₁ → News h₀ env.locals h news → Q .next { s with heap := h, toks := tk }) :
    wpAny (model P0 w) A (pyIter (.ref R)) (fun it s₂ => LoopAtV P0 w A h₀ env x body Q E it s₂) E s := by
  refine wpAny_pyIter_range hR (small_one (by decide) (by decide) (by omega) (by omega)) ?_
  have hsz : Builtin.Range.rangeSize 0 N 1 = (N.toNat : Int) := by rw [rangeSize_one]; split <;> omega
  rw [hsz]
  have W := LCg.range_walks (prog := P0) (w := w) (I := s.heap.objs.size) hh 0 N.toNat
  refine loop_invN (fun i m nx => nx = news ∧ J m) W ?_ ?_ ?_ ?_ ?_ (F.push _) (fun p hp => ⟨Heap.get?_push_of_some _ (hn p hp).1, (hn p hp).2⟩) ⟨rfl, hj⟩ ?_ ?_
  · intro hm
    exact absurd F.ns.lt ((List.mem_singleton.mp hm) ▸ Nat.lt_irrefl _)
  · intro b hb
    rw [List.mem_singleton.mp hb]
    exact next_is_new F
  · intro p hp hI
    exact absurd (Heap.lt_size (hn p hp).1) ((List.mem_singleton.mp hI) ▸ Nat.lt_irrefl _)
  · intro p hp hI
    exact absurd (Heap.lt_size (hn p hp).1) ((List.mem_singleton.mp hI) ▸ Nat.lt_irrefl _)
  · have e1 : (0 + ((0 : Nat) : Int) * 1) = 0 := by simp
    have e2 : ((N.toNat : Int) - ((0 : Nat) : Int)) = (N.toNat : Int) := by simp
    rw [e1, e2]
    exact Heap.get?_push_size _ rfl
  · rintro i v m₁ nx h tk own hi ⟨tk', rfl⟩ _ hoff' ⟨rfl, hp'⟩ F₁ N₁
    exact turn _ tk' m₁ h tk own (by omega) (by omega) hoff' hp' F₁ N₁
  · rintro m₁ nx h tk ⟨rfl, hp'⟩ F₁ N₁
    exact done m₁ h tk hp' F₁ N₁
local macro_rules | `(tactic| walk_at "eval Name") => `(tactic| (k_here; k_dflt (refine' ld ?k1 ?k2 ?_; (case k1 => k_asm); (case k2 => assumption); k_whole)))
local macro_rules | `(tactic| walk_at "call ref") => `(tactic| (k_here; first | with_reducible refine halt_at 498 ?_ | with_reducible refine halt_at 290 ?_ | with_reducible refine halt_at 465 ?_ | with_reducible refine halt_at 513 ?_))
local macro_rules | `(tactic| walk_at "pyIter ref") => `(tactic| (refine halt ?_))
local macro_rules | `(tactic| walk_at "InvEndN") => `(tactic| (refine halt ?_))
theorem ab_false : isBareF (Str.ofString "a\"b") = false := by decide +kernel
theorem name_ab (w : World) (s : Shared) (t : Tok) : Tell w 14 498 [.str (Str.ofString "a\"b") t, .bool false] [] s (fun r _ => r = .bool true) := by
  have := name_right_spec w s (Str.ofString "a\"b") t (by decide +kernel) (lex_one _ (by decide +kernel))
  rw [ab_false] at this
  exact this
theorem wv_ff (w : World) (s : Shared) (t : Tok) : Tell w 2 290 [.bytes #[255] t] [] s (fun r _ => ∃ t', r = .str (Str.ofString "X'FF'") t') := wv_blob w s _ t _ (.inr (.inr ⟨rfl, rfl⟩))
theorem top_V {mean mg mb h} (T : Top V (looseW V [Str.ofString "NAME_SIGNS", Str.ofString "LIKE_SIGNS", Str.ofString "GREATEST"]) mean mg mb h) : Top V lo mean mg mb h := loose_eqV ▸ T
theorem is_list_keeps {h h' : Heap} {l : Addr} {a : Array Value} (k : ∀ b o, h.get? b = some o → h'.get? b = some o) (hl : h.IsList l a) : h'.IsList l a := by
  obtain ⟨o, ho, hr⟩ := hl
  exact ⟨o, k _ _ ho, hr⟩
theorem news_src {h₀ h h' : Heap} {L src : Addr} {m : Str → Option Value} {news : List (Addr × Obj)} (F : Fr h₀ L h m) (hf : h.get? src = none) (hS : IsSrc h' src) (N : News h₀ L h' news) : ∃ o, News h₀ L h' ((src, o) :: news) := by
  refine named (fun G9 hG9 => ?_)
  obtain ⟨A, B0, ta, tb, n, hA, hB1, hB2, e1⟩ := hS
  refine hG9 ?_
  clear hG9 G9
  exact ⟨_, news_new F hf e1 N⟩
theorem news_off {g h h4 h5 : Heap} {L src : Addr} {news : List (Addr × Obj)} (N3 : News g L h news) (hf : h.get? src = none) (K4 : Keeps [] h h4) (K5 : Keeps [src] h4 h5) : News g L h5 news :=
  fun p hp => ⟨K5 _ _ (fun q => by have e := (N3 p hp).1; rw [List.mem_singleton.mp q, hf] at e; cases e) (K4 _ _ (by simp) (N3 p hp).1), (N3 p hp).2⟩
theorem main.tw13962693860625380366 : True := trivial
theorem main.tw2852251193174398662 : True := trivial
theorem main.tw11273777480241942364 : True := trivial
theorem main.tw8260724100714396741 : True := trivial
theorem main.tw5084117380071580128 : True := trivial
theorem main.tw5638201095994319732 : True := trivial
theorem main.tw11156056980113079860 : True := trivial
theorem main.tw14080665800827857628 : True := trivial
theorem main.tw14864641218109852296 : True := trivial
theorem main.tw14646587721710459877 : True := trivial
theorem main.tw7083192437325867461 : True := trivial
theorem main.tw13626721169425172152 : True := trivial
theorem main.tw1277820614484962519 : True := trivial
theorem main.tw11857135199678951331 : True := trivial
theorem main.tw15803610866087392283 : True := trivial
theorem main.tw12298629886278197574 : True := trivial
theorem main.tw10896356407431480244 : True := trivial
theorem main.tw6801380410627298636 : True := trivial
theorem main.tw10114013102757674387 : True := trivial
theorem main.tw18431692314602308842 : True := trivial
theorem main.tw1003221794747103253 : True := trivial
theorem main.tw12747388180105724736 : True := trivial
theorem main.tw4026956272090484662 : True := trivial
theorem main.tw5418533224930618480 : True := trivial
theorem main.tw17695171507069755227 : True := trivial
theorem main.tw15510692781650021527 : True := trivial
theorem main.tw17292155258170135553 : True := trivial
theorem main.tw4544244032028310869 : True := trivial
theorem main.tw1390771862084280389 : True := trivial
theorem main.tw8905464785575363620 : True := trivial
theorem main.tw5585478044538960755 : True := trivial
theorem main.tw1372806426800153423 : True := trivial
theorem main.tw5181119749688162637 : True := trivial
theorem main.tw16832360635688203351 : True := trivial
theorem main.tw4573282807186111410 : True := trivial
theorem main.tw9498315638749924794 : True := trivial
theorem main.tw471287901995484742 : True := trivial
theorem main.tw13974046611088194958 : True := trivial
theorem main.tw15616401959046598769 : True := trivial
theorem main.tw8930851030842425676 : True := trivial
theorem main.tw16452447596832230105 : True := trivial
theorem main.tw16026485685270457870 : True := trivial
theorem main.tw2744014450722944760 : True := trivial
theorem main.tw5665406974723832613 : True := trivial
theorem main.tw1306636233014830658 : True := trivial
theorem main.tw16008457594558532635 : True := trivial
theorem main.tw8440099810896429113 : True := trivial
theorem main.tw14216407083858561409 : True := trivial
theorem main.tw3958507339218470045 : True := trivial
theorem main.tw4650958065196391918 : True := trivial
theorem main.tw365850788961202214 : True := trivial
theorem main.tw5240779543111244032 : True := trivial
theorem main.tw16035907590883218939 : True := trivial
theorem main.tw14539993770535171780 : True := trivial
theorem main.tw1099256609624015869 : True := trivial
theorem main.tw3549514262204291990 : True := trivial
theorem main.tw5842977544298395883 : True := trivial
theorem main.tw17708487481403421675 : True := trivial
theorem main.tw6361450105264607166 : True := trivial
theorem main.tw9563168847844234846 : True := trivial
theorem main.tw3864431920445960829 : True := trivial
theorem main.tw1429040668314091153 : True := trivial
theorem main.tw17146568849442343683 : True := trivial
theorem main.tw15624239662980076321 : True := trivial
theorem main.tw917386388269078853 : True := trivial
theorem main.tw12093647306153771053 : True := trivial
theorem main.tw14722489848711283861 : True := trivial
theorem main.tw13180746182150919023 : True := trivial
theorem main.tw4637267157515435788 : True := trivial
theorem main.tw3045742163950154196 : True := trivial
theorem main.tw17147588175821073265 : True := trivial
theorem main.tw10450603732522932521 : True := trivial
theorem main.tw12652817052007968696 : True := trivial
theorem main.tw11399646045708457374 : True := trivial
theorem main.tw9994787619460420439 : True := trivial
theorem main.tw9483120023164983764 : True := trivial
theorem main.tw1826329307503635854 : True := trivial
theorem main.tw1678875084529416142 : True := trivial
theorem main.tw1545906260438175962 : True := trivial
theorem main.tw3514442730188584646 : True := trivial
theorem main.tw15737690656516749961 : True := trivial
theorem main.tw12623159325031504133 : True := trivial
theorem main.tw14106445559736802775 : True := trivial
theorem main.tw1677766988990989824 : True := trivial
theorem main.tw17958375852430007124 : True := trivial
theorem main.tw8844999433837080629 : True := trivial
theorem main.tw11135027115929721415 : True := trivial
theorem main.tw2629084897520917108 : True := trivial
theorem main.tw6741292078354696603 : True := trivial
theorem main.tw6557543464795787104 : True := trivial
theorem main.tw13803360072150633466 : True := trivial
theorem main.tw765107192605250810 : True := trivial
theorem main.tw16721930046160240684 : True := trivial
theorem main.tw12273490649430754879 : True := trivial
theorem main.tw4651154628705390771 : True := trivial
theorem main.tw10877679251791092727 : True := trivial
theorem main.tw7273056430967151046 : True := trivial
theorem main.tw5995161000843957690 : True := trivial
theorem main.tw6449824600675878752 : True := trivial
theorem main.tw7647378279178456250 : True := trivial
theorem main.tw5061512775090418087 : True := trivial
theorem main.tw1253437644075932092 : True := trivial
theorem main.tw10094358506670053839 : True := trivial
theorem main.tw17079828019802447277 : True := trivial
theorem main.tw11752208632293872130 : True := trivial
theorem main.tw8118072479153026202 : True := trivial
theorem main.tw6044114016751833949 : True := trivial
theorem main.tw13406003279186336099 : True := trivial
theorem main.tw2402762420636078793 : True := trivial
theorem main.tw6334894449686545209 : True := trivial
theorem main.tw1178595665728414349 : True := trivial
theorem main.tw2538046985915079169 : True := trivial
theorem main.tw4324958949535026087 : True := trivial
theorem main.tw5623159541915647742 : True := trivial
theorem main.tw11101190512080308003 : True := trivial
theorem main.tw9942282790977331292 : True := trivial
theorem main.tw13313126695403321540 : True := trivial
theorem main.tw11716418206903941319 : True := trivial
theorem main.tw15558288988949320067 : True := trivial
theorem main.tw13838900630717943254 : True := trivial
theorem main.tw1469836325065767749 : True := trivial
theorem main.tw15350898050860989542 : True := trivial
theorem main.tw5790326737455844299 : True := trivial
theorem main.tw5921134243170700561 : True := trivial
theorem main.tw2406621943657119228 : True := trivial
theorem main.tw13157206579259725088 : True := trivial
theorem main.tw13132915859168520264 : True := trivial
theorem main.tw16187894506366716058 : True := trivial
theorem main.tw16544489699163171333 : True := trivial
theorem main.tw6910295442248876197 : True := trivial
theorem main.tw9561784451562097942 : True := trivial
theorem main.tw12361340156312767134 : True := trivial
theorem main.tw17297283025540448806 : True := trivial
theorem main.tw5517759331935216279 : True := trivial
theorem main.tw9925469786538053656 : True := trivial
theorem main.tw14771111431291430275 : True := trivial
theorem main.tw5518243967957118194 : True := trivial
theorem main.tw13355152605343272895 : True := trivial
theorem main.tw16572128252103988241 : True := trivial
theorem main.tw6660377722381337597 : True := trivial
theorem main.tw4812270449578504274 : True := trivial
theorem main.tw10047389527955405517 : True := trivial
theorem main.tw13547569757486424058 : True := trivial
theorem main.tw1496695287857109588 : True := trivial
theorem main.tw7332552209862256014 : True := trivial
theorem main.tw12646911602827044314 : True := trivial
theorem main.tw10453263994017694363 : True := trivial
theorem main.tw18195925520682101353 : True := trivial
theorem main.tw15608450976537380609 : True := trivial
theorem main.tw16819838333489098493 : True := trivial
theorem main.tw16656740534632174751 : True := trivial
theorem main.tw11774690029378154688 : True := trivial
theorem main.tw6164561884633627433 : True := trivial
theorem main.tw12431561837914552411 : True := trivial
theorem main.tw1319676515408343850 : True := trivial
theorem main.tw221909299271738847 : True := trivial
theorem main.tw8436210846270712021 : True := trivial
theorem main.tw15277975159832343749 : True := trivial
theorem main.tw9361300454564663673 : True := trivial
theorem main.tw12608185968620612914 : True := trivial
theorem main.tw7237411587787531456 : True := trivial
theorem main.tw12564604832814323664 : True := trivial
theorem main.tw17438294365789470252 : True := trivial
theorem main.tw4585930131862741453 : True := trivial
theorem main.tw452746233719593009 : True := trivial
theorem main.tw11244112418865573338 : True := trivial
theorem main.tw6385024630547198690 : True := trivial
theorem main.tw14798791472264738832 : True := trivial
theorem main.tw10609540516017602915 : True := trivial
theorem main.tw6886502059237256666 : True := trivial
theorem main.tw1027651156746619712 : True := trivial
theorem main.tw4072190877284726289 : True := trivial
theorem main.tw1454224541498743561 : True := trivial
theorem main.tw13693970394777133609 : True := trivial
theorem main.tw9189880136782149556 : True := trivial
theorem main.tw2729793432009153956 : True := trivial
theorem main.tw14313897822631088780 : True := trivial
theorem main.tw12252054271945606052 : True := trivial
theorem main.tw16451033083921036709 : True := trivial
theorem main.tw9121559901702372667 : True := trivial
theorem main.tw18218335207050127959 : True := trivial
theorem main.tw6389877041954997217 : True := trivial
theorem main.tw8207831470162742035 : True := trivial
theorem main.tw15879367802089967143 : True := trivial
theorem main.tw17336282652733537790 : True := trivial
theorem main.tw1980160206288974728 : True := trivial
theorem main.tw453184122279072053 : True := trivial
theorem main.tw6855474311058116810 : True := trivial
theorem main.tw2456247091588846565 : True := trivial
theorem main.tw8466321980469482115 : True := trivial
theorem main.tw13260870731297125680 : True := trivial
theorem main.tw6112859857366181021 : True := trivial
theorem main.tw5372645768047454471 : True := trivial
theorem main.tw5401703158475992631 : True := trivial
theorem main.tw1777545030009416734 : True := trivial
theorem main.tw11646826074482590764 : True := trivial
theorem main.tw3491332818749588091 : True := trivial
theorem main.tw49674306023711395 : True := trivial
theorem main.tw750237026923860459 : True := trivial
theorem main.tw7074144079889050967 : True := trivial
theorem main.tw17453503289922162039 : True := trivial
theorem main.tw12800608258095302798 : True := trivial
theorem main.tw14793117695081215449 : True := trivial
theorem main.tw12463224122652932544 : True := trivial
theorem main.tw18421580907717582127 : True := trivial
theorem main.tw18425317256667529438 : True := trivial
theorem main.tw12343854547171428336 : True := trivial
theorem main.tw14027531716089632829 : True := trivial
theorem main.tw10405624014971126137 : True := trivial
theorem main.tw9957550378297406723 : True := trivial
theorem main.tw10123989817122485451 : True := trivial
theorem main.tw7698036289167662538 : True := trivial
theorem main.tw16320215318167395912 : True := trivial
theorem main.tw341453280667917650 : True := trivial
theorem main.tw12139096438432415106 : True := trivial
theorem main.tw14672674291997333471 : True := trivial
theorem main.tw17057053908230417247 : True := trivial
theorem main.tw4766233809647381661 : True := trivial
theorem main.tw18190005008629794160 : True := trivial
theorem main.tw799486724532869496 : True := trivial
theorem main.tw16215828952344909286 : True := trivial
theorem main.tw6981815665589151136 : True := trivial
theorem main.tw11251407683458634364 : True := trivial
theorem main.tw10231336680788121439 : True := trivial
theorem main.tw3613476055612923068 : True := trivial
theorem main.tw14060465935940456498 : True := trivial
theorem main.tw16480584520131690045 : True := trivial
theorem main.tw13224007501803129859 : True := trivial
theorem main.tw9515011664573035354 : True := trivial
theorem main.tw11349898740250378076 : True := trivial
theorem main.tw6663778134991626487 : True := trivial
theorem main.tw11962923498438245051 : True := trivial
theorem main.tw13667920496262714385 : True := trivial
theorem main.tw12450111651097656602 : True := trivial
theorem main.tw11218778669853930896 : True := trivial
theorem main.tw9392487213469676918 : True := trivial
theorem main.tw7699798408344515789 : True := trivial
theorem main.tw12751799325998411230 : True := trivial
theorem main.tw16826212616301561204 : True := trivial
theorem main.tw10876229203375891673 : True := trivial
theorem main.tw11261727412033496967 : True := trivial
theorem main.tw5436791530062809996 : True := trivial
theorem main.tw3454311308915712629 : True := trivial
theorem main.tw9268297945177815525 : True := trivial
theorem main.tw12885673836220544336 : True := trivial
theorem main.tw18165044119631177899 : True := trivial
theorem main.tw13950467820073009005 : True := trivial
theorem main.tw5473700226181020891 : True := trivial
theorem main.tw18031918436515192882 : True := trivial
theorem main.tw16922381011570985944 : True := trivial
theorem main.tw7884331609784382070 : True := trivial
theorem main.tw9302470337196694018 : True := trivial
theorem main.tw13980345723018547825 : True := trivial
theorem main.tw12909650291622432550 : True := trivial
theorem main.tw17268439761433841065 : True := trivial
theorem main.tw8729708805864041840 : True := trivial
theorem main.tw2583023086579268501 : True := trivial
theorem main.tw5871769198996169552 : True := trivial
theorem main.tw7214478077546791972 : True := trivial
theorem main.tw15955573374722617477 : True := trivial
theorem main.tw9265829497004654079 : True := trivial
theorem main.tw12941917028564957548 : True := trivial
theorem main.tw11476092923266045095 : True := trivial
theorem main.tw15387884906608193903 : True := trivial
theorem main.tw7186131708394509389 : True := trivial
theorem main.tw6075091234017535682 : True := trivial
theorem main.tw7268301785047649679 : True := trivial
theorem main.tw3934531018447913466 : True := trivial
theorem main.tw5234446048077146213 : True := trivial
theorem main.tw545269030811804461 : True := trivial
theorem main.tw2110754180369666209 : True := trivial
theorem main.tw2007339730380871907 : True := trivial
theorem main.tw17561526911342447988 : True := trivial
theorem main.tw14562738103837258888 : True := trivial
theorem main.tw16629339528299215175 : True := trivial
theorem main.tw11092141859048813250 : True := trivial
theorem main.tw3557749057250611081 : True := trivial
theorem main.tw10750994468655217958 : True := trivial
theorem main.tw979501456738626862 : True := trivial
theorem main.tw17715262827843222689 : True := trivial
theorem main.tw6584820252761975732 : True := trivial
theorem main.tw1645717771770832407 : True := trivial
theorem main.tw834873547066669988 : True := trivial
theorem main.tw14439473939278146460 : True := trivial
theorem main.tw11712081513822626495 : True := trivial
theorem main.tw1628013610222277130 : True := trivial
theorem main.tw3796207824708393856 : True := trivial
theorem main.tw8393119178710166562 : True := trivial
theorem main.tw17864028415675338326 : True := trivial
theorem main.tw11221353774195762014 : True := trivial
theorem main.tw9512817274939609580 : True := trivial
theorem main.tw14277072580157149592 : True := trivial
theorem main.tw6785657489111691699 : True := trivial
theorem main.tw9670510015898674028 : True := trivial
theorem main.tw3137596982192898869 : True := trivial
theorem main.tw13590572293223372214 : True := trivial
theorem main.tw1130211791997205004 : True := trivial
theorem main.tw16778611742570070204 : True := trivial
theorem main.tw17450470499104002142 : True := trivial
theorem main.tw451873465583785326 : True := trivial
theorem main.tw18332899500509843999 : True := trivial
theorem main.tw11001617756164336837 : True := trivial
theorem main.tw1409966394225722968 : True := trivial
theorem main.tw13116522157475607773 : True := trivial
theorem main.tw5243159528196176124 : True := trivial
theorem main.tw4638281056170512193 : True := trivial
theorem main.tw3370190323706015969 : True := trivial
theorem main.tw13503263706703578961 : True := trivial
theorem main.tw16136984950599521427 : True := trivial
theorem main.tw12483276189755474720 : True := trivial
theorem main.tw1587290215689348708 : True := trivial
theorem main.tw4297412468100583042 : True := trivial
theorem main.tw5240536507193477226 : True := trivial
theorem main.tw3829396358689915599 : True := trivial
theorem main.tw5309058905264134205 : True := trivial
theorem main.tw18120430973489738927 : True := trivial
theorem main.tw13876859957761632879 : True := trivial
theorem main.tw8627561154394265716 : True := trivial
theorem main.tw10455743928339290457 : True := trivial
theorem main.tw9557352009045844224 : True := trivial
theorem main.tw3583811862363856187 : True := trivial
theorem main.tw14064073609400967072 : True := trivial
theorem main.tw12518504611687188807 : True := trivial
theorem main.tw12431731261707249289 : True := trivial
theorem main.tw8478376212529829071 : True := trivial
theorem main.tw16135426469972691074 : True := trivial
theorem main.tw11544348965984651327 : True := trivial
theorem main.tw7590696779544312186 : True := trivial
theorem main.tw13348322127785295214 : True := trivial
theorem main.tw10717781254789130011 : True := trivial
theorem main.tw10363585996791799541 : True := trivial
theorem main.tw13972245371655741198 : True := trivial
theorem main.tw9406782406253462049 : True := trivial
theorem main.tw9681375758050803366 : True := trivial
theorem main.tw3466206800631347469 : True := trivial
theorem main.tw18238007617527299592 : True := trivial
theorem main.tw18302796317244248524 : True := trivial
theorem main.tw11120327062377616369 : True := trivial
theorem main.tw12543713266681445118 : True := trivial
theorem main.tw3706830351922483016 : True := trivial
theorem main.tw13350764725976880583 : True := trivial
theorem main.tw18178676814319149831 : True := trivial
theorem main.tw12885385263037960081 : True := trivial
theorem main.tw9417822746687237092 : True := trivial
theorem main.tw1156462466702112376 : True := trivial
theorem main.tw3562595001068472590 : True := trivial
theorem main.tw2496676261509829067 : True := trivial
theorem main.tw6635558491612396129 : True := trivial
theorem main.tw5396188567872606041 : True := trivial
theorem main.tw3027586509356016917 : True := trivial
theorem main.tw14168887731352723522 : True := trivial
theorem main.tw13402765919934010277 : True := trivial
theorem main.tw10234815189450012239 : True := trivial
theorem main.tw2724176850512262202 : True := trivial
theorem main.tw17477492558424962760 : True := trivial
theorem main.tw17128291446047057950 : True := trivial
theorem main.tw17679725944135375923 : True := trivial
theorem main.tw12653679108036650311 : True := trivial
theorem main.tw15270170921892066516 : True := trivial
theorem main.tw6519269512792494810 : True := trivial
theorem main.tw9368617206455126095 : True := trivial
theorem main.tw6508729118710982530 : True := trivial
theorem main.tw2702614204127132176 : True := trivial
theorem main.tw4948327476702027199 : True := trivial
theorem main.tw3905226178654972811 : True := trivial
theorem main.tw14907226015203709474 : True := trivial
theorem main.tw330327031418712150 : True := trivial
theorem main.tw1886080085820668685 : True := trivial
theorem main.tw104360540948158410 : True := trivial
theorem main.tw17403364634526059139 : True := trivial
theorem main.tw7293298908176781663 : True := trivial
theorem main.tw11554813239044494598 : True := trivial
theorem main.tw15734660467963936456 : True := trivial
theorem main.tw5102693214775723256 : True := trivial
theorem main.tw14635473669698735251 : True := trivial
theorem main.tw6674893403203295414 : True := trivial
theorem main.tw16689149305811164139 : True := trivial
theorem main.tw4749052000479324790 : True := trivial
theorem main.tw12590340796369385619 : True := trivial
theorem main.tw6702130215012162313 : True := trivial
theorem main.tw8046773169563483271 : True := trivial
theorem main.tw11982392923317675503 : True := trivial
theorem main.tw13154001654789283132 : True := trivial
theorem main.tw8652556701797213591 : True := trivial
theorem main.tw17223442867436993403 : True := trivial
theorem main.tw17733843439050281438 : True := trivial
theorem main.tw12455012482086183272 : True := trivial
theorem main.tw6655696309031964122 : True := trivial
theorem main.tw15303317825217679618 : True := trivial
theorem main.tw10149618387772673413 : True := trivial
theorem main.tw16519101796099990279 : True := trivial
theorem main.tw9656510801202774680 : True := trivial
theorem main.tw13676971244355772609 : True := trivial
theorem main.tw1242282695825638017 : True := trivial
theorem main.tw16950194794029067938 : True := trivial
theorem main.tw7751025194823839400 : True := trivial
theorem main.tw11409991511011244131 : True := trivial
theorem main.tw14274741233649588404 : True := trivial
theorem main.tw2544328076492683441 : True := trivial
theorem main.tw9756827057097773860 : True := trivial
theorem main.tw2019394398466159022 : True := trivial
theorem main.tw52199770228462824 : True := trivial
theorem main.tw73751810991705359 : True := trivial
theorem main.tw17871620999419790863 : True := trivial
theorem main.tw716429049611869786 : True := trivial
theorem main.tw1054321117371714560 : True := trivial
theorem main.tw5287059835090251167 : True := trivial
theorem main.tw9976160756891316704 : True := trivial
theorem main.tw3314904115985164895 : True := trivial
theorem main.tw1439166485080882 : True := trivial
theorem main.tw4044139247061151142 : True := trivial
theorem main.tw961187720498965250 : True := trivial
theorem main.tw6907636171062424033 : True := trivial
theorem main.tw223528310411579522 : True := trivial
theorem main.tw13219505800766818778 : True := trivial
theorem main.tw17353955331779342651 : True := trivial
theorem main.tw3285133870324970274 : True := trivial
theorem main.tw16218864148678617972 : True := trivial
theorem main.tw3779293765908593550 : True := trivial
theorem main.tw14504180641510445567 : True := trivial
theorem main.tw11987853993630220354 : True := trivial
theorem main.tw15595112118272840620 : True := trivial
theorem main.tw9360745474812902239 : True := trivial
theorem main.tw10707853282979444102 : True := trivial
theorem main.tw2895952525429962455 : True := trivial
theorem main.tw7093617532817203218 : True := trivial
theorem main.tw11815829001073249272 : True := trivial
theorem main.tw12670839924663504800 : True := trivial
theorem main.tw2759098988195820126 : True := trivial
theorem main.tw14759895335926876869 : True := trivial
theorem main.tw16676564476587882173 : True := trivial
theorem main.tw6418098437765475518 : True := trivial
theorem main.tw4039676971129161736 : True := trivial
theorem main.tw15514936471743626214 : True := trivial
theorem main.tw33456957511925785 : True := trivial
theorem main.tw6237627108579964202 : True := trivial
theorem main.tw4261964983698606537 : True := trivial
theorem main.tw2566753976717531306 : True := trivial
theorem main.tw1236483940969888574 : True := trivial
theorem main.tw5613160597433933154 : True := trivial
theorem main.tw4839478117068044826 : True := trivial
theorem main.tw9730157408454304684 : True := trivial
theorem main.tw17052023290607921161 : True := trivial
theorem main.tw7439787175107056256 : True := trivial
theorem main.tw4946776927847147119 : True := trivial
theorem main.tw65644731488775911 : True := trivial
theorem main.tw2555861160798251974 : True := trivial
theorem main.tw11003572833241299968 : True := trivial
theorem main.tw12027323910402764344 : True := trivial
theorem main.tw4156125974679941130 : True := trivial
theorem main.tw16305672181175384284 : True := trivial
theorem main.tw6788530277367551627 : True := trivial
theorem main.tw12927740378394474205 : True := trivial
theorem main.tw18063282731904131703 : True := trivial
theorem main.tw16251939892948500945 : True := trivial
theorem main.tw7742616358663508648 : True := trivial
theorem main.tw15136431859952498927 : True := trivial
theorem main.tw13724616953566380437 : True := trivial
theorem main.tw10665089971535097683 : True := trivial
theorem main.tw12675357926760492328 : True := trivial
theorem main.tw10928175160051115300 : True := trivial
theorem main.tw3532412968194664532 : True := trivial
theorem main.tw13591255225166038476 : True := trivial
theorem main.tw6657087868060814 : True := trivial
theorem main.tw8467378866343419333 : True := trivial
theorem main.tw9470667924834194258 : True := trivial
theorem main.tw13777938177461255882 : True := trivial
theorem main.tw16952715711813285254 : True := trivial
theorem main.tw8952462522180670554 : True := trivial
theorem main.tw5363903885879670357 : True := trivial
theorem main.tw16049902774474827687 : True := trivial
theorem main.tw18284262389922463811 : True := trivial
theorem main.tw302440914744352476 : True := trivial
theorem main.tw496957432446577329 : True := trivial
theorem main.tw9903775340124721222 : True := trivial
theorem main.tw10177057350305019805 : True := trivial
theorem main.tw17644181745481072423 : True := trivial
theorem main.tw18418235949754561950 : True := trivial
theorem main.tw6674386428176565332 : True := trivial
theorem main.tw8484041278411425421 : True := trivial
theorem main.tw2647654807098235363 : True := trivial
theorem main.tw17298425922696826006 : True := trivial
theorem main.tw3343439749351644125 : True := trivial
theorem main.tw6696893160125735727 : True := trivial
theorem main.tw9376575566392132001 : True := trivial
theorem main.tw2195194259037543316 : True := trivial
theorem main.tw17201416709059790184 : True := trivial
theorem main.tw12732289081945773324 : True := trivial
theorem main.tw16193401482309157537 : True := trivial
theorem main.tw12748397558918655664 : True := trivial
theorem main.tw10625486282989778954 : True := trivial
theorem main.tw13293747886898857621 : True := trivial
theorem main.tw6880717277089553138 : True := trivial
theorem main.tw13113777628852026922 : True := trivial
theorem main.tw13270728482189477470 : True := trivial
theorem main.tw962193829226610041 : True := trivial
theorem main.tw9508770018378322450 : True := trivial
theorem main.tw9190990891756207365 : True := trivial
theorem main.tw5571399437266216444 : True := trivial
theorem main.tw15465920861327815835 : True := trivial
theorem main.tw12057704586751987240 : True := trivial
theorem main.tw10463206416058312583 : True := trivial
theorem main.tw15060185592220127646 : True := trivial
theorem main.tw17272174723667511238 : True := trivial
theorem main.tw5378808338967829844 : True := trivial
theorem main.tw15109750227778091905 : True := trivial
theorem main.tw7235775444256392728 : True := trivial
theorem main.tw1118068078248606362 : True := trivial
theorem main.tw11086099901593105684 : True := trivial
theorem main.tw10864377008497418100 : True := trivial
theorem main.tw9381277316556691805 : True := trivial
theorem main.tw387501639795913443 : True := trivial
theorem main.tw11410963132546700228 : True := trivial
theorem main.tw5602234197418806665 : True := trivial
theorem main.tw6788695710022549768 : True := trivial
theorem main.tw15017983477296125989 : True := trivial
theorem main.tw1504049600530537962 : True := trivial
theorem main.tw645136716886899192 : True := trivial
theorem main.tw7846812961960373227 : True := trivial
theorem main.tw18315214858253571532 : True := trivial
theorem main.tw11487549891475536569 : True := trivial
theorem main.tw8557395850702784662 : True := trivial
theorem main.tw6542085627976250192 : True := trivial
theorem main.tw6541472054586571296 : True := trivial
theorem main.tw1850612553970854742 : True := trivial
theorem main.tw8127475511531132179 : True := trivial
theorem main.tw16468494690219507866 : True := trivial
theorem main.tw15580989882048331800 : True := trivial
theorem main.tw13227692790652741651 : True := trivial
theorem main.tw4365514962571936147 : True := trivial
theorem main.tw4038153913678941442 : True := trivial
theorem main.tw10821422270917381399 : True := trivial
theorem main.tw5160751907100791332 : True := trivial
theorem main.tw12077450504624328385 : True := trivial
theorem main.tw16320729459185622934 : True := trivial
theorem main.tw8809968196449919288 : True := trivial
theorem main.tw4333880214566435006 : True := trivial
theorem main.tw1150287232629052791 : True := trivial
theorem main.tw15806524323241146399 : True := trivial
theorem main.tw8079908401900000222 : True := trivial
theorem main.tw14218914174604095658 : True := trivial
theorem main.tw5797031442667253490 : True := trivial
theorem main.tw16046730324260685337 : True := trivial
theorem main.tw1615045767204293396 : True := trivial
theorem main.tw3394367416137920725 : True := trivial
theorem main.tw7761410557224570781 : True := trivial
theorem main.tw10825838108423173272 : True := trivial
theorem main.tw1519927702969063271 : True := trivial
theorem main.tw10652863235454686790 : True := trivial
theorem main.tw7153082081811710619 : True := trivial
theorem main.tw2921958311620399285 : True := trivial
theorem main.tw3234112476842188716 : True := trivial
theorem main.tw11595355409239048105 : True := trivial
theorem main.tw2190695567426971638 : True := trivial
theorem main.tw18134284020713443437 : True := trivial
theorem main.tw18442785490491869365 : True := trivial
theorem main.tw1714950047550659301 : True := trivial
theorem main.tw7691172733374981047 : True := trivial
theorem main.tw4475767826048309731 : True := trivial
theorem main.tw1261021989165538067 : True := trivial
theorem main.tw12205347405646519318 : True := trivial
theorem main.tw8834365191522931223 : True := trivial
theorem main.tw10391951854915411234 : True := trivial
theorem main.tw14788915703135433725 : True := trivial
theorem main.tw6183352029847204284 : True := trivial
theorem main.tw3627144658338631552 : True := trivial
theorem main.tw1157997071576566072 : True := trivial
theorem main.tw17402982504261768225 : True := trivial
theorem main.tw8707812797481193996 : True := trivial
theorem main.tw14639212616227390028 : True := trivial
theorem main.tw14009396871252706886 : True := trivial
theorem main.tw6162249291895867263 : True := trivial
theorem main.tw2821470743931037460 : True := trivial
theorem main.tw14061640607465278742 : True := trivial
theorem main.tw15768048840197415361 : True := trivial
theorem main.tw17091655785135471103 : True := trivial
theorem main.tw12222963475772708484 : True := trivial
theorem main.tw7514964652732493775 : True := trivial
theorem main.tw6545385358150927430 : True := trivial
theorem main.tw2921621734765799159 : True := trivial
theorem main.tw2225956059507018244 : True := trivial
theorem main.tw3299218664060906527 : True := trivial
theorem main.tw16411370214107742406 : True := trivial
theorem main.tw7974275031393228247 : True := trivial
theorem main.tw8663697691656813868 : True := trivial
theorem main.tw6511744376749373798 : True := trivial
theorem main.tw15467891735981029475 : True := trivial
theorem main.tw2906824675625879941 : True := trivial
theorem main.tw832900586485598795 : True := trivial
theorem main.tw12915833801598196605 : True := trivial
theorem main.tw5665735395497279834 : True := trivial
theorem main.tw17699438841360665129 : True := trivial
theorem main.tw18392154025008590481 : True := trivial
theorem main.tw6032723428446822806 : True := trivial
theorem main.tw3994622017586750766 : True := trivial
theorem main.tw17118054049896295152 : True := trivial
theorem main.tw15131278010643852716 : True := trivial
theorem main.tw13642826006792871662 : True := trivial
theorem main.tw4681395471914393968 : True := trivial
theorem main.tw9808303207383738048 : True := trivial
theorem main.tw12900284412222446716 : True := trivial
theorem main.tw6596593509180878263 : True := trivial
theorem main.tw10092017014551392330 : True := trivial
theorem main.tw9682133043923132273 : True := trivial
theorem main.tw4605139254293405059 : True := trivial
theorem main.tw5781596087445459943 : True := trivial
theorem main.tw66260789543402106 : True := trivial
theorem main.tw10663580350406149668 : True := trivial
theorem main.tw14662554035588321541 : True := trivial
theorem main.tw8228058824784995430 : True := trivial
theorem main.tw5649967823195072380 : True := trivial
theorem main.tw15485851114877660061 : True := trivial
theorem main.tw892681787802806017 : True := trivial
theorem main.tw14097447854668400296 : True := trivial
theorem main.tw2238316416991798583 : True := trivial
theorem main.tw15554039934745177238 : True := trivial
theorem main.tw5203219222101121401 : True := trivial
theorem main.tw4126091431370883743 : True := trivial
theorem main.tw17767330081159143506 : True := trivial
theorem main.tw5396361742852586263 : True := trivial
set_option maxHeartbeats 8000000 in
set_option Elab.async true in
theorem main : PySem.Challenge.rw_xm0763_01.Holds := by
  (w_on; o_law; k_head; (case hw => w_witness2))
  w_strict (
    k_go0
    (all_goals try k_fold)
    k_steps
    unfold Halt
    rename News _ _ _ _ => N1
    rename Fr _ _ _ _ => F1
    rename Frag.In _ _ => X1
    rename Top _ _ _ _ _ _ => T1
    rename Below _ _ _ _ => B1
    refine tell_use (name_ab _ _ _) B1 F1 X1 N1 (top_V T1) (by rfl) (by decide) (by decide) ?_
    intro v2 h2 tk2 F2 N2 K2 hP2
    subst hP2
    k_steps
    unfold Halt
    refine tell_use (wv_ff _ _ _) B1 (by assumption) X1 (by assumption) (top_V T1) (by rfl) (by decide) (by decide) ?_
    intro v3 h3 tk3 F3 N3 K3 hP3
    obtain ⟨t3, rfl⟩ := hP3
    k_steps
    all_goals
      unfold Halt
      rename Heap.IsList _ _ _ => hL
      rename IntsAre _ _ => hI
      refine iter_range (fun m => m (Str.ofString "script") = some (Value.ref _)) rfl (by assumption) (by decide) (by decide) (by assumption) (by assumption) (by rfl) ?_ ?_
      · intro k tk' m₁ h tk own k0 k1 ho hj F3 N3
        k_steps
        unfold Halt
        refine tell_use (pool_spec _ _ _ _ _ _ _ ?isl9 hI (by omega) k0 (by omega)) B1 (by assumption) X1 N3 (top_V T1) (by rfl) (by decide) (by decide) ?_
        case isl9 => exact is_list_keeps F3.keep hL
        intro r4 h4 tk4 F4 N4 K4 hP4
        refine named (fun G9 hG9 => ?_)
        obtain ⟨src, rfl, hS, hfr⟩ := hP4
        refine hG9 ?_
        clear hG9 G9
        have N5 := news_src F3 hfr hS N4
        obtain ⟨osrc, N5⟩ := N5
        k_steps
        unfold Halt
        refine tell_useF (right_spec _ _ _ hS) B1 (by assumption) X1 N5 (top_V T1) (by rfl) (by decide) (by decide) (fun x hx => ⟨osrc, by rw [List.mem_singleton.mp hx]; exact List.Mem.head _⟩) ?_
        intro r5 h5 tk5 F5 _ K5 hP5
        obtain ⟨rfl, hS5⟩ := hP5
        have N6 := news_off N3 hfr K4 K5
        clear N4 N5
        k_steps
        unfold Halt
        exact inv_end F5 N6 hj (fun p hp => List.mem_append.mpr (.inl hp)) (fun p hp => List.mem_append.mpr (.inr hp))
      · intro m₁ h tk hj F3 N3
        k_steps)
end

end Mine

theorem PySem.Challenge.cw_xm0763_01_holds : PySem.Challenge.rw_xm0763_01.Holds := by
  exact Mine.main
