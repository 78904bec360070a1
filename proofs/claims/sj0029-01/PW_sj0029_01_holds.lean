import PyProof.Rows.All
import Wide.All
import OpenK.AllK
import Wide.FinOn
import Lean
import PySem.Challenge.RW_sj0029_01
open PySem PySem.W PySem.Calls PyProof.Rows
set_option Elab.async false
set_option genSizeOf false
namespace Mine
set_option maxRecDepth 100000
set_option maxHeartbeats 8000000
section
local macro_rules | `(tactic| o_head $_) => `(tactic| assumption)
-- makes the constant hd.heap_1 (the written part of the heap); the head itself is walked in law_holds
theorem hd (h : PySem.Challenge.rw_sj0029_01.row.Holds) : PySem.Challenge.rw_sj0029_01.row.Holds := by
  k_head
end
-- all but M stays
def Keeps (M : List Addr) (h h' : Heap) : Prop := ∀ b o, h.get? b = some o → b ∉ M → h'.get? b = some o

theorem Keeps.refl {M : List Addr} {h : Heap} : Keeps M h h := fun _ _ e _ => e
theorem Keeps.trans {M : List Addr} {h h' h'' : Heap} (a : Keeps M h h') (b : Keeps M h' h'') : Keeps M h h'' := fun x o e n => b x o (a x o e n) n
theorem Keeps.mono {M M' : List Addr} {h h' : Heap} (a : Keeps M h h') (s : ∀ x ∈ M, x ∈ M') : Keeps M' h h' := fun x o e n => a x o e fun q => n (s x q)

theorem fr_keeps {M : List Addr} {h₀ h h' : Heap} {L : Addr} {m : Str → Option Value} (F : Fr h₀ L h m) (k : Keeps M h h') (hL : L ∉ M) (hM : ∀ a ∈ M, h₀.get? a = none) : Fr h₀ L h' m := by
  obtain ⟨oL, es, ep, hg, r⟩ := F.ns
  refine ⟨⟨oL, es, ep, k L oL hg hL, r⟩, fun b o e => k b o (F.keep b o e) fun q => ?_, F.above⟩
  have := hM b q
  rw [e] at this; cases this

theorem keeps_of {s h' g : Heap} {L' : Addr} {m' : Str → Option Value} {sub sub' : List (Addr × Obj)} {M : List Addr} (G : ∀ b o, s.get? b = some o → b ∉ sub.map (·.1) → g.get? b = some o)
    (Ns : ∀ p ∈ sub, s.get? p.1 = some p.2) (F' : Fr g L' h' m') (N' : News g L' h' sub') (hM : ∀ p ∈ sub, p.1 ∉ M → p ∈ sub') : Keeps M s h' := fun b o e nb => by
  by_cases hb : b ∈ sub.map (·.1)
  · obtain ⟨p, hp, rfl⟩ := List.mem_map.mp hb
    have := Ns p hp
    rw [e] at this
    cases this
    exact (N' p (hM p hp nb)).1
  · exact F'.keep b o (G b o e hb)

theorem fresh_of {s g h' : Heap} {L' a : Addr} {o : Obj} {sub sub' : List (Addr × Obj)} (G : ∀ b o, s.get? b = some o → b ∉ sub.map (·.1) → g.get? b = some o)
    (N' : News g L' h' sub') (hm : (a, o) ∈ sub') (hn' : ∀ p ∈ sub, p.1 ≠ a) : s.get? a = none := by
  have hn : a ∉ sub.map (·.1) := fun q => by obtain ⟨p, hp, e⟩ := List.mem_map.mp q; exact hn' p hp e
  cases q : s.get? a with
  | none => rfl
  | some x => have := (N' _ hm).2.2; rw [G _ _ q hn] at this; cases this

section
variable {prog : Program} {w : World} {A A₀ : Around} {s : Shared} {K : Frag} {L : Addr} {h₀ base : Heap} {m mg mb : Str → Option Value} {news : List (Addr × Obj)} {p : Program} {loose : List Str} {mean : ExcName → Option Value}
-- a call of a def of the text: what is not told stays in g
theorem enterM {env : Env} {outer : List Env} {R : Result → Shared → Prop} {name qual : Str} {params : Arguments} {body : List Stmt} {scope : Scope} {dV kV doc pm cdv ct oc : Value} {an od : Option Addr} {osl : Array (Option Value)} {f : Addr} {args : Args} {binds : List (Str × Value)}
    (B : Below A₀ base outer h₀) (F : Fr h₀ L s.heap m) (X₀ : K.In h₀) (N : News h₀ L s.heap news) (T : Top p loose mean mg mb h₀) (hA : A.frames = some (env :: outer)) (hf : env.frame = some L) (hke : env.scope.kind = .function)
    (ho : K.lookup f = some ⟨oc, od, .func (fnOf name qual params body scope dV kV doc pm an cdv ct), osl⟩) (hcd : codeIn K cdv qual = true) (hroom : A.depth < recursionLimit)
    (hbind : BindsTo s (fnOf name qual params body scope dV kV doc pm an cdv ct) args binds) (hloc : ∀ y ∈ binds, scope.names.lookup y.1 = some .local)
    (h : ∀ g L' h₁, (∀ b o, s.heap.get? b = some o → b ∉ news.map (·.1) → g.get? b = some o) → (∀ p ∈ news, s.heap.get? p.1 = some p.2) → (∀ p ∈ news, p.1 < L') → Fr g L' h₁ (fun y => binds.reverse.lookup y) → News g L' h₁ news → Below A base (env :: outer) g → K.In g → Top p loose mean mg mb g →
      wpAny (model prog w) (A.deeper (envOf qual scope L' f cdv)) (execs body (envOf qual scope L' f cdv))
        (fun fl s' => R (.ok (.ret (match fl with | .ret v => v | _ => .none))) s')
        (fun e s' => wpAny (model prog w) (A.deeper (envOf qual scope L' f cdv)) (leaving (envOf qual scope L' f cdv) e) (fun _ s'' => R (.error e) s'') (fun e' s'' => R (.error e') s'') s')
        { s with heap := h₁, toks := s.toks + binds.length })
    (hco : scope.isCoroutine = false) (hgen : scope.isGenerator = false) (hk : scope.kind = .function)
    (hcell : ∀ x ∈ scope.names, x.2 ≠ .cell) : codeAny (model prog w) A (.call (.ref f) args) R s := by
  obtain ⟨FG, BG, st, _⟩ := groundX (R := R) B F N hA hf hke
  refine codeAny_call_def (fd := fnOf name qual params body scope dV kV doc pm an cdv ct) (body := body) (binds := binds) hroom ((X₀.keeps F.keep) _ _ ho) rfl (T.nolimit.keeps F.keep) (codeRec_of (X₀.keeps F.keep) hcd) rfl hbind hcell hloc (fun h₁ hns hk₁ => ?_) hco hgen hk
  exact h _ s.heap.objs.size h₁ (fun b o e n => hideAll_get _ e n) (fun p hp => (N p hp).1) (fun p hp => Heap.lt_size (N p hp).1) ⟨hns, fun b o e => hk₁ b o (of_hideAll _ e), Nat.le_of_eq (hideAll_size _ _)⟩
    (fun p hp => ⟨hk₁ _ _ (N p hp).1, Nat.ne_of_lt (Heap.lt_size (N p hp).1), hideAll_none _ (List.mem_map_of_mem hp)⟩) BG (X₀.keeps st) (T.keeps st)
end

section
variable {prog : Program} {w : World} {A : Around} {E : Value → Shared → Prop} {s : Shared} {h₀ h : Heap} {L D : Addr} {m : Str → Option Value} {news news' : List (Addr × Obj)} {n : Nat}
theorem len_lst {l : Addr} {vs : List Value} {Q : Value → Shared → Prop} (hl : s.heap.IsList l vs.toArray) (hz : vs.length ≤ 16384) (h : Q (.int vs.length (s.toks + 1)) { s with toks := s.toks + 1 + 1 }) :
    wpAny (model prog w) A (call (.builtin "len") [.ref l]) Q E s := kun_lenL hl (by simp) (by omega) h
theorem item_lst {value slice : Expr} {l : Addr} {vs : List Value} {k : Int} {u : Tok} {x : Value} {Q : Value → Shared → Prop} (hl : s.heap.IsList l vs.toArray)
    (h0 : 0 ≤ k) (hfit : k < 2 ^ 63) (hx : vs[k.toNat]? = some x) (h : Q x s)
    (hs : subscripted slice false (.ref l) (.int k u) = operate [.ref l, .int k u] (getItem (.ref l) (.int k u)) := by with_unfolding_all rfl) :
    wpAny (model prog w) A (subscriptTail value slice (.ref l) (.int k u)) Q E s :=
  tail_any hl.typeIs slot_list_getitem.lookup (wpAny_getItem_list hl h0 hfit (by simpa using hx) h) hs
theorem append_lst {vs : List Value} {x : Value} {Q : Value → Shared → Prop} (F : Fr h₀ L s.heap m) (N : News h₀ L s.heap news) (U : Upd D (listOf vs.toArray n) (listOf (vs ++ [x]).toArray (n + 1)) news news')
    (hz : vs.length ≤ 16384) (h : ∀ h', Fr h₀ L h' m → News h₀ L h' news' → Q .none { s with heap := h' }) : wpAny (model prog w) A (call (.builtin "list.append") [.ref D, x]) Q E s :=
  append_K (its := vs.toArray) F N (by rw [show vs.toArray.push x = (vs ++ [x]).toArray from by simp]; exact U) h (by rw [sizeLine_eq, List.size_toArray]; omega)
theorem pop0_lst {v : Value} {vs : List Value} {u : Tok} {Q : Value → Shared → Prop} (F : Fr h₀ L s.heap m) (N : News h₀ L s.heap news) (U : Upd D (listOf (v :: vs).toArray n) (listOf vs.toArray (n + 1)) news news')
    (hz : vs.length ≤ 16384) (h : ∀ h', Fr h₀ L h' m → News h₀ L h' news' → Q v { s with heap := h' }) : wpAny (model prog w) A (call (.builtin "list.pop") [.ref D, .int 0 u]) Q E s :=
  kl_popAt (p := []) (q := vs) (y := v) (k := 0) F N rfl (by simp [seqIndex?]) rfl U (by rw [sizeLine_eq]; simp; omega) h
end

-- what is known of a ledger when M may have turned
def Got (M : List Addr) (h₀ h' : Heap) (L : Addr) (news : List (Addr × Obj)) : Prop := ∀ p ∈ news, (p.1 ∉ M → h'.get? p.1 = some p.2) ∧ p.1 ≠ L ∧ h₀.get? p.1 = none
theorem got_start {M : List Addr} {h₀ h h' : Heap} {L : Addr} {news : List (Addr × Obj)} (N : News h₀ L h news) (k : Keeps M h h') : Got M h₀ h' L news := fun p hp => ⟨k _ _ (N p hp).1, (N p hp).2⟩
theorem upd_mem {d : Addr} {o o' : Obj} {n n' : List (Addr × Obj)} (U : Upd d o o' n n') : (d, o) ∈ n := by
  induction U with
  | head _ => exact .head _
  | tail _ _ ih => exact .tail _ ih
theorem upd_mem' {d : Addr} {o o' : Obj} {n n' : List (Addr × Obj)} (U : Upd d o o' n n') : (d, o') ∈ n' := by
  induction U with
  | head _ => exact .head _
  | tail _ _ ih => exact .tail _ ih
theorem upd_other {d : Addr} {o o' : Obj} {n n' : List (Addr × Obj)} (U : Upd d o o' n n') : ∀ p ∈ n', p = (d, o') ∨ (p ∈ n ∧ p.1 ≠ d) := by
  induction U with
  | head h => intro p hp; rcases List.mem_cons.mp hp with rfl | hp; exact .inl rfl; exact .inr ⟨.tail _ hp, h p hp⟩
  | tail h _ ih => intro p hp; rcases List.mem_cons.mp hp with rfl | hp; exact .inr ⟨.head _, h⟩; exact (ih p hp).imp id fun q => ⟨.tail _ q.1, q.2⟩
theorem upd_keep {d : Addr} {o o' : Obj} {n n' : List (Addr × Obj)} (U : Upd d o o' n n') {p : Addr × Obj} (hp : p ∈ n) (hd : p.1 ≠ d) : p ∈ n' := by
  induction U with
  | head h => rcases List.mem_cons.mp hp with rfl | hp; exact absurd rfl hd; exact .tail _ hp
  | tail h _ ih => rcases List.mem_cons.mp hp with rfl | hp; exact .head _; exact .tail _ (ih hp)
theorem got_upd {M : List Addr} {h₀ h' : Heap} {L d : Addr} {o o' : Obj} {n n' : List (Addr × Obj)} (G : Got (d :: M) h₀ h' L n) (U : Upd d o o' n n') (hd : h'.get? d = some o') : Got M h₀ h' L n' := fun p hp => by
  rcases upd_other U p hp with rfl | ⟨q, nd⟩
  · exact ⟨fun _ => hd, (G _ (upd_mem U)).2⟩
  · exact ⟨fun nm => (G p q).1 (by simp only [List.mem_cons, not_or]; exact ⟨nd, nm⟩), (G p q).2⟩
theorem got_end {h₀ h' : Heap} {L : Addr} {n : List (Addr × Obj)} (G : Got [] h₀ h' L n) : News h₀ L h' n := fun p hp => ⟨(G p hp).1 (by simp), (G p hp).2⟩
theorem fr_of {M : List Addr} {h₀ h h' : Heap} {L : Addr} {m : Str → Option Value} {news : List (Addr × Obj)} (F : Fr h₀ L h m) (N : News h₀ L h news) (k : Keeps M h h') (hM : ∀ a ∈ M, ∃ o, (a, o) ∈ news) : Fr h₀ L h' m :=
  fr_keeps F k (fun q => let ⟨_, ho⟩ := hM L q; (N _ ho).2.1 rfl) fun a q => let ⟨_, ho⟩ := hM a q; (N _ ho).2.2
theorem news_sub {h₀ h : Heap} {L : Addr} {n n' : List (Addr × Obj)} (N : News h₀ L h n) (s : ∀ p ∈ n', p ∈ n) : News h₀ L h n' := fun p hp => N p (s p hp)
theorem news_app {h₀ h : Heap} {L : Addr} {n n' : List (Addr × Obj)} (N : News h₀ L h n) (N' : News h₀ L h n') : News h₀ L h (n ++ n') := fun p hp => (List.mem_append.mp hp).elim (N p) (N' p)

-- which kind of object
def sigOf (o : Obj) : Nat := match o.data with
  | .dict es _ => (match es.toList with
      | [] => 1
      | e :: _ => (match e.key with | .str s _ => 10 + (s.cps.toList.headD 0) | _ => 2))
  | .seq _ _ => 3
  | .fields _ => 4
  | .plain => (match o.cls with | .ref a => 1000 + a | _ => 5)
  | _ => 0
structure Dif (a b : Nat) : Prop where
  ne : a ≠ b
theorem ne_of_news {h₀ h : Heap} {L a b : Addr} {o o' : Obj} {news : List (Addr × Obj)} (N : News h₀ L h news) (h1 : (a, o) ∈ news) (h2 : (b, o') ∈ news) (ho : Nat.beq (sigOf o) (sigOf o') = false) : Dif a b := ⟨fun e => by
  have x := (N _ h1).1
  have y := (N _ h2).1
  dsimp only at x y
  rw [e, y] at x
  cases x
  rw [Nat.beq_refl] at ho
  cases ho⟩
theorem fresh_L {h₀ h : Heap} {L z : Addr} {m : Str → Option Value} (F : Fr h₀ L h m) (hz : h.get? z = none) : z ≠ L ∧ h₀.get? z = none := by
  obtain ⟨oL, _, _, hL, _⟩ := F.ns
  refine ⟨fun e => ?_, ?_⟩
  · rw [← e, hz] at hL; cases hL
  cases q : h₀.get? z with
  | none => rfl
  | some o => have := F.keep _ _ q; rw [hz] at this; cases this
-- a key that the caller's ledger has, or a new one
def KeyOk (s : Heap) (sub : List (Addr × Obj)) (l : List (Addr × Obj)) : Prop := ∀ p ∈ l, (∃ o, (p.1, o) ∈ sub) ∨ s.get? p.1 = none
-- behind a call: the caller's frame and ledger
theorem back_k {s h' g h₀ : Heap} {L L' : Addr} {m m' : Str → Option Value} {sub sub' : List (Addr × Obj)} (F : Fr h₀ L s m) (N : News h₀ L s sub) (G : ∀ b o, s.get? b = some o → b ∉ sub.map (·.1) → g.get? b = some o)
    (F' : Fr g L' h' m') (N' : News g L' h' sub') (k : KeyOk s sub sub') : Fr h₀ L h' m ∧ News h₀ L h' sub' := by
  obtain ⟨oL, es, ep, hg, r⟩ := F.ns
  have nk : ∀ b o, h₀.get? b = some o → b ∉ sub.map (·.1) := fun b o e q => by
    obtain ⟨p, hp, rfl⟩ := List.mem_map.mp q
    rw [(N p hp).2.2] at e; cases e
  refine ⟨⟨⟨oL, es, ep, F'.keep _ _ (G L oL hg fun q => ?_), r⟩, fun b o e => F'.keep b o (G b o (F.keep b o e) (nk b o e)), F.above⟩, fun p hp => ⟨(N' p hp).1, ?_⟩⟩
  · obtain ⟨p, hp, e⟩ := List.mem_map.mp q
    exact (N p hp).2.1 e
  · rcases k p hp with ⟨o, ho⟩ | hz
    · exact (N _ ho).2
    · exact fresh_L F hz
-- every place that a ledger tells is the caller's or new
theorem ko_any {s g h' : Heap} {L' : Addr} {sub l : List (Addr × Obj)} (G : ∀ b o, s.get? b = some o → b ∉ sub.map (·.1) → g.get? b = some o) (N' : News g L' h' l) : KeyOk s sub l := fun p hp => by
  by_cases hm : p.1 ∈ sub.map (·.1)
  · obtain ⟨q, hq, e⟩ := List.mem_map.mp hm
    exact .inl ⟨q.2, by rw [← e]; exact hq⟩
  · refine .inr ?_
    cases hs : s.get? p.1 with
    | none => rfl
    | some o => have := (N' p hp).2.2; rw [G _ _ hs hm] at this; cases this
theorem back {s h' g h₀ : Heap} {L L' : Addr} {m m' : Str → Option Value} {sub sub' : List (Addr × Obj)} (F : Fr h₀ L s m) (N : News h₀ L s sub) (G : ∀ b o, s.get? b = some o → b ∉ sub.map (·.1) → g.get? b = some o)
    (F' : Fr g L' h' m') (N' : News g L' h' sub') : Fr h₀ L h' m ∧ News h₀ L h' sub' := back_k F N G F' N' (ko_any G N')
theorem foldL {α : Type} {M : Model} {A : Around} {t : Sem α} {Q : α → Shared → Prop} {E : Value → Shared → Prop} {h h₀ : Heap} {L : Addr} {m : Str → Option Value} {g : Array GenState} {d : Drawn} {o : OsState} {tk : Nat} (F : Fr h₀ L h m)
    (k : ∀ tk', let Ak := A; let mk := m; Fr h₀ L h mk → wpAny M Ak t Q E ⟨h, g, d, tk', o⟩) : wpAny M A t Q E ⟨h, g, d, tk, o⟩ := k tk F
theorem toks_any {α : Type} {M : Model} {A : Around} {t : Sem α} {Q : α → Shared → Prop} {E : Value → Shared → Prop} {h : Heap} {g : Array GenState} {d : Drawn} {o : OsState} {tk : Nat} (k : ∀ tk', wpAny M A t Q E ⟨h, g, d, tk', o⟩) : wpAny M A t Q E ⟨h, g, d, tk, o⟩ := k tk
structure Hold (P : Prop) : Prop where
  out : P
-- the defs that have a contract
def hasPact (a : Nat) : Bool := [45, 89, 117, 125, 132, 139, 146, 153, 160, 167, 174, 181, 189, 192, 201, 208, 215, 222, 229, 236, 243, 250].contains a
theorem Hold.call {M : Model} {A : Around} {a : Addr} {pos : List Value} {kw : List (Str × Value)} {Q : Value → Shared → Prop} {E : Value → Shared → Prop} {s : Shared} (_ : hasPact a = true) (h : Hold (wpAny M A (call (.ref a) pos kw) Q E s)) : wpAny M A (call (.ref a) pos kw) Q E s := h.out
theorem ex_ne {h₀ h : Heap} {L d : Addr} {o : Obj} {news ex ex' : List (Addr × Obj)} (N : News h₀ L h news) (hm : (d, o) ∈ news) (h1 : ∀ p ∈ ex, p.1 ≠ d) (fr : ∀ p ∈ ex', h.get? p.1 = none) : ∀ p ∈ ex ++ ex', p.1 ≠ d := fun p hp =>
  (List.mem_append.mp hp).elim (h1 p) fun q e => by
    have := fr p q
    have z := (N _ hm).1
    dsimp only at z
    rw [e, z] at this; cases this
theorem there_of {s h' g : Heap} {L' : Addr} {m' : Str → Option Value} {sub sub' : List (Addr × Obj)} (G : ∀ b o, s.get? b = some o → b ∉ sub.map (·.1) → g.get? b = some o)
    (F' : Fr g L' h' m') (N' : News g L' h' sub') (hM : ∀ p ∈ sub, ∃ o, (p.1, o) ∈ sub') {z : Addr} (hz : h'.get? z = none) : s.get? z = none := by
  cases q : s.get? z with
  | none => rfl
  | some o =>
    by_cases hb : z ∈ sub.map (·.1)
    · obtain ⟨p, hp, rfl⟩ := List.mem_map.mp hb
      obtain ⟨o', ho⟩ := hM p hp
      have := (N' _ ho).1
      dsimp only at this
      rw [hz] at this; cases this
    · have := F'.keep z o (G z o q hb)
      rw [hz] at this; cases this
theorem cons_in {x : Addr × Obj} {l T : List (Addr × Obj)} (h : x ∈ T) (r : ∀ p ∈ l, p ∈ T) : ∀ p ∈ x :: l, p ∈ T := fun p hp => (List.mem_cons.mp hp).elim (fun e => e ▸ h) (r p)
theorem app_in {l l' T : List (Addr × Obj)} (h : ∀ p ∈ l, p ∈ T) (r : ∀ p ∈ l', p ∈ T) : ∀ p ∈ l ++ l', p ∈ T := fun p hp => (List.mem_append.mp hp).elim (h p) (r p)
theorem keys_cons {x : Addr × Obj} {l T : List (Addr × Obj)} (h : ∃ o, (x.1, o) ∈ T) (r : ∀ p ∈ l, ∃ o, (p.1, o) ∈ T) : ∀ p ∈ x :: l, ∃ o, (p.1, o) ∈ T := fun p hp => (List.mem_cons.mp hp).elim (fun e => e ▸ h) (r p)
theorem keys_in {l T : List (Addr × Obj)} (h : ∀ p ∈ l, p ∈ T) : ∀ p ∈ l, ∃ o, (p.1, o) ∈ T := fun p hp => ⟨p.2, h p hp⟩
theorem keys_nil {T : List (Addr × Obj)} : ∀ p ∈ ([] : List (Addr × Obj)), ∃ o, (p.1, o) ∈ T := fun _ h => nomatch h
--MAC
local macro_rules | `(tactic| walk_at "call builtin:list.append") => `(tactic| (k_here; k_dflt (refine' append_lst ?k1 ?k2 ?k3 ?k4 ?_; (case k1 | k2 => k_asm); (case k3 => k_upd); (case k4 => omega); k_whole); intro h' F' N'; try k_sweep))
local macro_rules | `(tactic| k_ne) => `(tactic| first | exact Dif.ne (by assumption) | exact Ne.symm (Dif.ne (by assumption)) | fail)
local macro_rules | `(tactic| kst_inAny) => `(tactic| first | exact keys_nil | (refine keys_cons ⟨_, by k_mem⟩ ?_; kst_inAny) | (refine keys_in ?_; ktd_sub))
local macro_rules | `(tactic| k_mem) => `(tactic| first | (refine List.mem_append_right _ ?_; k_mem) | (refine List.mem_append_left _ ?_; k_mem))
local macro_rules | `(tactic| k_mem) => `(tactic| with_reducible assumption)
local macro_rules | `(tactic| ktd_sub) => `(tactic| first | exact fun _ h => h | (intro p9 h9; k_mem) | (refine cons_in (by k_mem) ?_; ktd_sub) | (refine app_in (by ktd_sub) ?_; ktd_sub) | fail "ktd_sub: no way")
local macro_rules | `(tactic| k_all) => `(tactic| assumption)
local macro_rules | `(tactic| k_room) => `(tactic| (simp +zetaDelta only [depth_under_make, depth_under_kw, depth_in1, depth_deeper, depth_caller, ktrTop, units_in1, units_deeper, Around.mark_units, units_caller]; first | omega | decide))
local macro_rules | `(tactic| k_units) => `(tactic| k_room)
local macro_rules | `(tactic| cell_enter) => `(tactic| (refine' enterM ?k1 ?k2 ?k3 ?k4 ?k5 ?kA ?kF ?kK ?k6 ?k7 ?k8 ?k9 ?kB ?_ ?c2 ?c3 ?c4 ?c5; (case kA | kF => exact rfl); (case kK => assumption); (case k1 | k2 | k3 | k4 | k5 => k_asm); (case k6 | k7 => k_is); (case k8 => ktr_room); (case k9 => first | exact BindsTo.of_eq rfl | exact binds_K (by k_in) rfl (by k_is) rfl rfl rfl | fail "no rule for these arguments"); (case c5 => decide); (case kB => exact locs rfl); (case c2 | c3 | c4 => exact rfl); k_whole))
local macro_rules | `(tactic| walk_at "call builtin:len") => `(tactic| (k_here; k_dflt (refine' len_lst ?k1 ?k2 ?_; (case k1 => exact News.isList (by k_asm) (by k_mem)); (case k2 => omega); k_whole)))
local macro_rules | `(tactic| walk_at "subscriptTail") => `(tactic| (k_here; k_dflt (refine' item_lst ?k1 ?k2 ?k3 ?k4 ?_; (case k1 => exact News.isList (by k_asm) (by k_mem)); (case k2 | k3 => omega); (case k4 => assumption); k_whole)))
local macro_rules | `(tactic| walk_at "call ref") => `(tactic| (k_here; k_dflt (refine Hold.call (by rfl) ?_)))
--END
-- a token's value: a text, or an object
inductive Vl where
  | s (x : Str)
  | r (a : Addr)
def Vl.Is : Vl → Value → Prop
  | .s x, v => ∃ t, v = .str x t
  | .r a, v => v = .ref a
structure Tk where
  kd : Str
  val : Vl
  at' : Int
def eofTk : Tk := ⟨"eof", .s "", -1⟩
def tokAt (R : List Tk) (j : Nat) : Tk := R.getD j eofTk
structure Q3 where
  h1 : Int
  h2 : Int
  h3 : Int
  k1 : Tok
  k2 : Tok
  k3 : Tok
abbrev tkD (q : Q3) (kd : Str) (t1 : Tok) (vv : Value) (i : Int) (t3 : Tok) : Obj := dictOf [⟨q.h1, .str "kind" q.k1, .str kd t1⟩, ⟨q.h2, .str "value" q.k2, vv⟩, ⟨q.h3, .str "at" q.k3, .int i t3⟩] 3
abbrev srcD (q : Q3) (lt : Nat) (pl : Nat) (tp : Tok) (b : Bool) : Obj := dictOf [⟨q.h1, .str "tokens" q.k1, .ref lt⟩, ⟨q.h2, .str "place" q.k2, .int pl tp⟩, ⟨q.h3, .str "parted" q.k3, .bool b⟩] 3
-- the ledger bears the token t at v
structure TokIn (news : List (Addr × Obj)) (v : Value) (t : Tk) (x dx : Nat) (q : Q3) (t1 : Tok) (vv : Value) (t3 : Tok) : Prop where
  ref : v = .ref x
  obj : (x, instObj 64 dx) ∈ news
  dict : (dx, tkD q t.kd t1 vv t.at' t3) ∈ news
  val : t.val.Is vv
def TokOf (news : List (Addr × Obj)) (v : Value) (t : Tk) : Prop := ∃ x dx q t1 vv t3, TokIn news v t x dx q t1 vv t3
theorem TokOf.mono {n n' : List (Addr × Obj)} {v : Value} {t : Tk} (h : TokOf n v t) (s : ∀ p ∈ n, p ∈ n') : TokOf n' v t :=
  let ⟨x, dx, q, t1, vv, t3, h⟩ := h; ⟨x, dx, q, t1, vv, t3, h.ref, s _ h.obj, s _ h.dict, h.val⟩

section
variable {w : World} {dp un : Nat} {gd : Option (List Code)} {cn : Str} {cs : Scope} {a : Addr} {ccd : Value} {cl : List (Str × Addr)} {outer : List Env} {A₀ : Around} {base h₀ : Heap} {L : Addr} {m : Str → Option Value} {s : Shared} {E : Value → Shared → Prop}
  {p : Program} {loose : List Str} {mean : ExcName → Option Value} {mg mb : Str → Option Value} {Q : Value → Shared → Prop}

theorem next_token_in {xs ds lt pl n : Nat} {q : Q3} {tp : Tok} {b : Bool} {toks : List Value} {tv : Value}
    (B : Below A₀ base outer h₀) (F : Fr h₀ L s.heap m) (X : (hd.heap_1 w.params).In h₀) (T : Top p loose mean mg mb h₀) (hk : cs.kind = .function) (hd : dp + 5 < recursionLimit) (hu : un + 40 < cLine)
    (N : News h₀ L s.heap [(xs, instObj 92 ds), (ds, srcD q lt pl tp b), (lt, listOf toks.toArray n)])
    (h1 : pl < toks.length) (hl : toks.length ≤ 1000) (hv : toks[pl]? = some tv) (d1 : Dif ds xs) (d2 : Dif ds lt)
    (ret : ∀ h' tk' t', Keeps [ds] s.heap h' → h'.get? ds = some (srcD q lt (pl + 1) t' b) → Q tv { s with heap := h', toks := tk' }) :
    wpAny (model PySem.Challenge.rw_sj0029_01.row.prog w) (ktrTop dp un gd cn cs L a ccd cl outer) (call (.ref 89) [.ref xs]) Q E s := by
  refine wpAny_call ?_
  have hv' : toks[((pl : Int)).toNat]? = some tv := by simpa using hv
  k_dflt cell_enter
  intro g' L' h1 G' S' l' F' N' B' X' T'
  k_lt l'
  try dsimp only
  refine foldL F' ?_
  intro tk0 Ak mk F8
  k_fold
  k_steps
  refine' ret _ _ ?t ?k ?g
  case g => exact (by assumption : News _ _ _ _).get (by first | k_mem | fail)
  case k => exact keeps_of (by assumption) (by assumption) (by assumption) (by assumption) (by simp (config := {decide := true}))
theorem next_token_eof {xs ds lt pl n : Nat} {q : Q3} {tp : Tok} {b : Bool} {toks : List Value}
    (B : Below A₀ base outer h₀) (F : Fr h₀ L s.heap m) (X : (hd.heap_1 w.params).In h₀) (T : Top p loose mean mg mb h₀) (hk : cs.kind = .function) (hd : dp + 5 < recursionLimit) (hu : un + 40 < cLine)
    (N : News h₀ L s.heap [(xs, instObj 92 ds), (ds, srcD q lt pl tp b), (lt, listOf toks.toArray n)])
    (h1 : toks.length ≤ pl) (hl : toks.length ≤ 1000) (d1 : Dif ds xs) (d2 : Dif ds lt)
    (ret : ∀ h' tk' x dx q' t1 t2 t3, Keeps [] s.heap h' → h'.get? x = some (instObj 64 dx) → h'.get? dx = some (tkD q' "eof" t1 (.str "" t2) (-1) t3) → s.heap.get? x = none → s.heap.get? dx = none → Q (.ref x) { s with heap := h', toks := tk' }) :
    wpAny (model PySem.Challenge.rw_sj0029_01.row.prog w) (ktrTop dp un gd cn cs L a ccd cl outer) (call (.ref 89) [.ref xs]) Q E s := by
  refine wpAny_call ?_
  k_dflt cell_enter
  intro g' L' h1 G' S' l' F' N' B' X' T'
  k_lt l'
  try dsimp only
  refine foldL F' ?_
  intro tk0 Ak mk F8
  k_fold
  k_steps
  refine' ret _ _ _ ?dx ⟨?h1, ?h2, ?h3, ?k1, ?k2, ?k3⟩ ?t1 ?t2 ?t3 ?K ?gx ?gd ?fx ?fd
  case gx => exact (by assumption : News _ _ _ _).get (by first | k_mem | fail)
  case gd => exact (by assumption : News _ _ _ _).get (by first | k_mem | fail)
  case K => exact keeps_of (by assumption) (by assumption) (by assumption) (by assumption) (by simp (config := {decide := true}))
  case fx => exact fresh_of (by assumption) (by assumption) (by first | k_mem | fail) (by first | k_all | fail)
  case fd => exact fresh_of (by assumption) (by assumption) (by first | k_mem | fail) (by first | k_all | fail)
-- the source's next token, over any ledger
theorem next_token_K {xs ds lt pl n : Nat} {q : Q3} {tp : Tok} {b : Bool} {toks : List Value} {R : List Tk} {news : List (Addr × Obj)} {news' : Tok → List (Addr × Obj)}
    (B : Below A₀ base outer h₀) (F : Fr h₀ L s.heap m) (X : (hd.heap_1 w.params).In h₀) (N : News h₀ L s.heap news) (T : Top p loose mean mg mb h₀) (hk : cs.kind = .function) (hd : dp + 5 < recursionLimit) (hu : un + 40 < cLine)
    (m1 : (xs, instObj 92 ds) ∈ news) (m2 : (lt, listOf toks.toArray n) ∈ news) (U : ∀ t', Upd ds (srcD q lt pl tp b) (srcD q lt (min (pl + 1) R.length) t' b) news (news' t')) (h1 : pl ≤ R.length) (hl : R.length ≤ 1000)
    (hR : toks.length = R.length ∧ ∀ (i : Nat) (v : Value) (t : Tk), toks[i]? = some v → R[i]? = some t → TokOf news v t)
    (ret : ∀ r h' tk' t' ex x dx q t1 vv t3, Fr h₀ L h' m → News h₀ L h' (ex ++ news' t') → (∀ p ∈ ex, s.heap.get? p.1 = none) → (r = .ref x) → (x, instObj 64 dx) ∈ (ex ++ news' t') → (dx, tkD q (tokAt R pl).kd t1 vv (tokAt R pl).at' t3) ∈ (ex ++ news' t') → (tokAt R pl).val.Is vv →
      Q r { s with heap := h', toks := tk' }) :
    wpAny (model PySem.Challenge.rw_sj0029_01.row.prog w) (ktrTop dp un gd cn cs L a ccd cl outer) (call (.ref 89) [.ref xs]) Q E s := by
  have m3 := upd_mem (U tp)
  have d1 : Dif ds xs := ne_of_news N m3 m1 rfl
  have d2 : Dif ds lt := ne_of_news N m3 m2 rfl
  have Ns : News h₀ L s.heap [(xs, instObj 92 ds), (ds, srcD q lt pl tp b), (lt, listOf toks.toArray n)] := news_sub N (by simp [m1, m2, m3])
  by_cases hp : pl < R.length
  · obtain ⟨tv, hv⟩ : ∃ tv, toks[pl]? = some tv := ⟨toks[pl]'(by omega), List.getElem?_eq_getElem _⟩
    obtain ⟨x, dx, q', t1, vv, t3, hT⟩ := hR.2 pl tv (R[pl]) hv (List.getElem?_eq_getElem hp)
    have eT : tokAt R pl = R[pl] := by unfold tokAt; rw [List.getD_eq_getElem?_getD, List.getElem?_eq_getElem hp]; rfl
    refine next_token_in B F X T hk hd hu Ns (by omega) (by omega) hv d1 d2 fun h' tk' t' kk hg => ?_
    have em : min (pl + 1) R.length = pl + 1 := by omega
    have U' := U t'
    rw [em] at U'
    have ne : x ≠ ds ∧ dx ≠ ds := ⟨(ne_of_news N hT.obj m3 rfl).ne, (ne_of_news N hT.dict m3 rfl).ne⟩
    have N' := got_end (got_upd (got_start N kk) U' hg)
    exact ret tv h' tk' t' [] x dx q' t1 vv t3 (fr_of F N kk (by simp; exact ⟨_, m3⟩)) N' (by simp) hT.ref (upd_keep U' hT.obj ne.1) (by rw [eT]; exact upd_keep U' hT.dict ne.2) (by rw [eT]; exact hT.val)
  · have eT : tokAt R pl = eofTk := by unfold tokAt; rw [List.getD_eq_getElem?_getD, List.getElem?_eq_none (by omega)]; rfl
    refine next_token_eof B F X T hk hd hu Ns (by omega) (by omega) d1 d2 fun h' tk' x dx q' t1 t2 t3 kk hx hdx fx fdx => ?_
    have em : min (pl + 1) R.length = pl := by omega
    have U' := U tp
    rw [em] at U'
    have hg : h'.get? ds = some (srcD q lt pl tp b) := kk _ _ (N _ m3).1 (by simp)
    have kk' : Keeps [ds] s.heap h' := kk.mono (by simp)
    have N' := got_end (got_upd (got_start N kk') U' hg)
    have fL : ∀ z, s.heap.get? z = none → z ≠ L ∧ h₀.get? z = none := fun z hz => fresh_L F hz
    refine ret (.ref x) h' tk' tp [(x, instObj 64 dx), (dx, tkD q' "eof" t1 (.str "" t2) (-1) t3)] x dx q' t1 (.str "" t2) t3 (fr_of F N kk (by simp)) (news_app (fun p hp => ?_) N') (by simp [fx, fdx]) rfl (by simp) (by rw [eT]; exact List.mem_append_left _ (.tail _ (.head _))) (by rw [eT]; exact ⟨t2, rfl⟩)
    simp only [List.mem_cons, List.not_mem_nil, or_false] at hp
    rcases hp with rfl | rfl
    · exact ⟨hx, fL x fx⟩
    · exact ⟨hdx, fL dx fdx⟩
end
structure Q5 where
  h1 : Int
  h2 : Int
  h3 : Int
  h4 : Int
  h5 : Int
  k1 : Tok
  k2 : Tok
  k3 : Tok
  k4 : Tok
  k5 : Tok
abbrev curD (q : Q5) (xs la : Nat) (hs : Bool) (tv : Value) (i : Int) (ti : Tok) : Obj :=
  dictOf [⟨q.h1, .str "source" q.k1, .ref xs⟩, ⟨q.h2, .str "ahead" q.k2, .ref la⟩, ⟨q.h3, .str "hashed" q.k3, .bool hs⟩, ⟨q.h4, .str "token" q.k4, tv⟩, ⟨q.h5, .str "at" q.k5, .int i ti⟩] 5
def hashTk (t : Tk) : Bool := t.kd == "op" && (match t.val with | .s x => x == "#" | .r _ => false)
def Tk.ok (t : Tk) : Prop := t.kd = "op" ∨ t.kd = "key" ∨ t.kd = "id" → ∃ x, t.val = .s x
-- a cursor's places
structure CA where
  xc : Nat
  dc : Nat
  la : Nat
  xs : Nat
  ds : Nat
  lt : Nat
  q : Q3
  qc : Q5
  toks : List Value
  n : Nat
-- what stands there
structure CS where
  hs : Bool
  tv : Value
  i : Int
  ti : Tok
  ah : List Value
  na : Nat
  pl : Nat
  tp : Tok
  b : Bool
abbrev led (c : CA) (σ : CS) (ex : List (Addr × Obj)) : List (Addr × Obj) :=
  (c.xc, instObj 192 c.dc) :: (c.dc, curD c.qc c.xs c.la σ.hs σ.tv σ.i σ.ti) :: (c.la, listOf σ.ah.toArray σ.na) :: (c.xs, instObj 92 c.ds) :: (c.ds, srcD c.q c.lt σ.pl σ.tp σ.b) :: (c.lt, listOf c.toks.toArray c.n) :: ex
-- apart: what may turn is none of the rest
structure Apart (c : CA) (ex : List (Addr × Obj)) : Prop where
  l : c.la ≠ c.lt
  a1 : ∀ p ∈ ex, p.1 ≠ c.dc
  a2 : ∀ p ∈ ex, p.1 ≠ c.ds
  a3 : ∀ p ∈ ex, p.1 ≠ c.la
theorem Apart.app {h₀ h : Heap} {L : Addr} {c : CA} {σ : CS} {ex ex' : List (Addr × Obj)} (D : Apart c ex) (N : News h₀ L h (led c σ ex)) (fr : ∀ p ∈ ex', h.get? p.1 = none) : Apart c (ex ++ ex') :=
  ⟨D.l, ex_ne N (.tail _ (.head _)) D.a1 fr, ex_ne N (.tail _ (.tail _ (.tail _ (.tail _ (.head _))))) D.a2 fr, ex_ne N (.tail _ (.tail _ (.head _))) D.a3 fr⟩
theorem tokAt_ok {R : List Tk} (h : ∀ t ∈ R, t.ok) (j : Nat) : (tokAt R j).ok := by
  unfold tokAt
  rw [List.getD_eq_getElem?_getD]
  cases q : R[j]? with
  | none => exact fun _ => ⟨_, rfl⟩
  | some t => exact h t (List.mem_of_getElem? q)
section
variable {w : World} {dp un : Nat} {gd : Option (List Code)} {cn : Str} {cs : Scope} {a : Addr} {ccd : Value} {cl : List (Str × Addr)} {outer : List Env} {A₀ : Around} {base h₀ : Heap} {L : Addr} {m : Str → Option Value} {s : Shared} {E : Value → Shared → Prop}
  {p : Program} {loose : List Str} {mean : ExcName → Option Value} {mg mb : Str → Option Value} {Q : Value → Shared → Prop}
theorem fetch_in {c : CA} {σ : CS} {R : List Tk} {ex : List (Addr × Obj)}
    (B : Below A₀ base outer h₀) (F : Fr h₀ L s.heap m) (X : (hd.heap_1 w.params).In h₀) (N : News h₀ L s.heap (led c σ ex)) (T : Top p loose mean mg mb h₀) (hk : cs.kind = .function) (hd : dp + 8 < recursionLimit) (hu : un + 60 < cLine)
    (D : Apart c ex) (h1 : σ.pl ≤ R.length) (hl : R.length ≤ 1000) (hok : ∀ t ∈ R, t.ok)
    (hR : c.toks.length = R.length ∧ ∀ (i : Nat) (v : Value) (t : Tk), c.toks[i]? = some v → R[i]? = some t → TokOf ex v t)
    (ret : ∀ r h' tk' t' ex', Fr h₀ L h' m → News h₀ L h' (led c { σ with hs := hashTk (tokAt R σ.pl), pl := min (σ.pl + 1) R.length, tp := t', b := σ.hs } (ex ++ ex')) → (∀ p ∈ ex', s.heap.get? p.1 = none) → TokOf (ex ++ ex') r (tokAt R σ.pl) → Q r { s with heap := h', toks := tk' }) :
    wpAny (model PySem.Challenge.rw_sj0029_01.row.prog w) (ktrTop dp un gd cn cs L a ccd cl outer) (call (.ref 117) [.ref c.xc]) Q E s := by
  obtain ⟨xc, dc, la, xs, ds, lt, q, qc, toks, n⟩ := c
  obtain ⟨hs, tv, i, ti, ah, na, pl, tp, b⟩ := σ
  dsimp only at *
  obtain ⟨d0, e1, e2, e3⟩ := D
  dsimp only [led] at *
  have d1 := ne_of_news N (a := dc) (b := ds) (by first | k_mem | fail) (by first | k_mem | fail) rfl
  have d2 := ne_of_news N (a := dc) (b := xs) (by first | k_mem | fail) (by first | k_mem | fail) rfl
  have d3 := ne_of_news N (a := dc) (b := xc) (by first | k_mem | fail) (by first | k_mem | fail) rfl
  have d4 := ne_of_news N (a := dc) (b := lt) (by first | k_mem | fail) (by first | k_mem | fail) rfl
  have d5 := ne_of_news N (a := ds) (b := xs) (by first | k_mem | fail) (by first | k_mem | fail) rfl
  have d6 := ne_of_news N (a := ds) (b := xc) (by first | k_mem | fail) (by first | k_mem | fail) rfl
  have d7 := ne_of_news N (a := ds) (b := lt) (by first | k_mem | fail) (by first | k_mem | fail) rfl
  have d8 := ne_of_news N (a := dc) (b := la) (by first | k_mem | fail) (by first | k_mem | fail) rfl
  have d9 := ne_of_news N (a := ds) (b := la) (by first | k_mem | fail) (by first | k_mem | fail) rfl
  refine wpAny_call ?_
  k_dflt cell_enter
  intro g' L' hh G' S' l' F' N' B' X' T'
  k_lt l'
  try dsimp only
  refine foldL F' ?_
  intro tk0 Ak mk F8
  k_fold
  k_steps
  rename Fr g' _ _ _ => F1
  rename News g' _ _ _ => N1
  refine ⟨next_token_K (q := q) (tp := tp) (lt := lt) (pl := pl) (R := R) (by assumption) F1 (by assumption) N1 (by assumption) rfl ?_ ?_ (by first | k_mem | fail) (by first | k_mem | fail) (fun t' => by first | k_upd | fail) h1 hl ⟨hR.1, fun i v t a b => (hR.2 i v t a b).mono fun p hp => ?_⟩ ?_⟩
  · show dp + 1 + 5 < _; omega
  · show un + 3 + 40 < _; omega
  · simp only [List.mem_cons, hp, or_true]
  intro r h' tk' t' ex' x dx q' t1 vv t3 F2 N2 fr er mx md hv
  subst er
  have N3 := news_sub N2 (cons_in mx (cons_in md (l := (xc, _) :: (dc, _) :: (la, _) :: (xs, _) :: (ds, _) :: (lt, _) :: (ex ++ ex')) (by first | ktd_sub | fail)))
  have e4 := ex_ne N1 (d := dc) (by first | k_mem | fail) e1 fr
  have d10 := ne_of_news N3 (a := dc) (b := x) (by first | k_mem | fail) (by first | k_mem | fail) rfl
  have d11 := ne_of_news N3 (a := dc) (b := dx) (by first | k_mem | fail) (by first | k_mem | fail) rfl
  have hok' : (tokAt R pl).ok := tokAt_ok hok pl
  have fr' : ∀ p ∈ ex', s.heap.get? p.1 = none := fun p hp => there_of G' F1 N1 (by first | kst_inAny | fail) (fr p hp)
  have m1 : (x, instObj 64 dx) ∈ ex ++ ex' := by
    simp only [List.mem_append, List.mem_cons, Prod.mk.injEq] at mx ⊢
    rcases mx with h | ⟨_, h⟩ | ⟨_, h⟩ | ⟨_, h⟩ | ⟨_, h⟩ | ⟨_, h⟩ | ⟨_, h⟩ | h <;> first | exact .inl h | exact .inr h | exact nomatch (congrArg sigOf h)
  have m2 : (dx, tkD q' (tokAt R pl).kd t1 vv (tokAt R pl).at' t3) ∈ ex ++ ex' := by
    simp only [List.mem_append, List.mem_cons, Prod.mk.injEq] at md ⊢
    rcases md with h | ⟨_, h⟩ | ⟨_, h⟩ | ⟨_, h⟩ | ⟨_, h⟩ | ⟨_, h⟩ | ⟨_, h⟩ | h <;> first | exact .inl h | exact .inr h | exact nomatch (congrArg sigOf h)
  have fin : ∀ (m2 : Str → Option Value) (h2 : Heap) (tk2 : Nat) (bb : Bool), Fr g' L' h2 m2 → News g' L' h2 ((x, instObj 64 dx) :: (dx, tkD q' (tokAt R pl).kd t1 vv (tokAt R pl).at' t3) :: (xc, instObj 192 dc) :: (dc, curD qc xs la bb tv i ti) :: (la, listOf ah.toArray na) :: (xs, instObj 92 ds) :: (ds, srcD q lt (min (pl + 1) R.length) t' hs) :: (lt, listOf toks.toArray n) :: (ex ++ ex')) →
      bb = hashTk (tokAt R pl) → Q (.ref x) { s with heap := h2, toks := tk2 } := by
    intro m2' h2 tk2 bb F9 N9 hb
    subst hb
    obtain ⟨Fa, Na⟩ := back F N G' F9 (news_sub N9 (n' := (xc, _) :: (dc, _) :: (la, _) :: (xs, _) :: (ds, _) :: (lt, _) :: (ex ++ ex')) (by first | ktd_sub | fail))
    exact ret _ _ _ _ ex' Fa Na fr' ⟨x, dx, q', t1, vv, t3, rfl, m1, m2, hv⟩
  clear N2 N1 F1 mx md m1 m2 ret
  generalize tokAt R pl = tk at *
  obtain ⟨kd, val, at'⟩ := tk
  dsimp only at *
  by_cases hkd : kd = "op"
  · obtain ⟨z, hz⟩ := hok' (.inl hkd)
    dsimp only at hz
    subst hkd hz
    obtain ⟨tz, rfl⟩ := hv
    k_steps
    refine fin _ _ _ _ (by assumption) (by assumption) rfl
  · have hk0 : (kd == "op") = false := by simpa using hkd
    k_steps
    refine fin _ _ _ _ (by assumption) (by assumption) ?_
    simp [hashTk, hk0]
end
structure Rel (R : List Tk) (sp se : Nat) (c : CA) (σ : CS) (ex : List (Addr × Obj)) : Prop where
  le : sp ≤ se
  top : se ≤ 1000
  rl : R.length ≤ 1000
  ok : ∀ t ∈ R, t.ok
  pl : σ.pl = min (se + 1) R.length
  hs : σ.hs = hashTk (tokAt R se)
  b : σ.b = (decide (0 < se) && hashTk (tokAt R (se - 1)))
  tv : TokOf ex σ.tv (tokAt R sp)
  i : σ.i = (tokAt R sp).at'
  len : σ.ah.length = se - sp
  ah : ∀ (j : Nat) (v : Value), σ.ah[j]? = some v → TokOf ex v (tokAt R (sp + 1 + j))
  row : c.toks.length = R.length ∧ ∀ (i : Nat) (v : Value) (t : Tk), c.toks[i]? = some v → R[i]? = some t → TokOf ex v t
  apart : Apart c ex
theorem tokAt_min (R : List Tk) (j : Nat) : tokAt R (min j R.length) = tokAt R j := by
  unfold tokAt
  by_cases h : j ≤ R.length
  · rw [Nat.min_eq_left h]
  · rw [Nat.min_eq_right (by omega), List.getD_eq_getElem?_getD, List.getD_eq_getElem?_getD, List.getElem?_eq_none (Nat.le_refl _), List.getElem?_eq_none (by omega)]
theorem in_led {a1 a2 a3 a4 a5 a6 : Addr × Obj} {ex : List (Addr × Obj)} {p : Addr × Obj} (h : p ∈ ex) : p ∈ a1 :: a2 :: a3 :: a4 :: a5 :: a6 :: ex := .tail _ (.tail _ (.tail _ (.tail _ (.tail _ (.tail _ h)))))
theorem sub_app {ex ex' : List (Addr × Obj)} : ∀ p ∈ ex, p ∈ ex ++ ex' := fun _ h => List.mem_append_left _ h
theorem rel_take1 {R : List Tk} {sp se x : Nat} {c : CA} {hs b : Bool} {tv : Value} {i : Int} {ti t3 tp : Tok} {vs : List Value} {na pl : Nat} {ex : List (Addr × Obj)}
    (D : Rel R sp se c ⟨hs, tv, i, ti, .ref x :: vs, na, pl, tp, b⟩ ex) : Rel R (sp + 1) (max se (sp + 1)) c ⟨hs, .ref x, (tokAt R (sp + 1)).at', t3, vs, na + 1, pl, tp, b⟩ ex := by
  have h := D.len
  have h1 := D.le
  simp only [List.length_cons] at h
  have e : max se (sp + 1) = se := by omega
  rw [e]
  exact ⟨by omega, D.top, D.rl, D.ok, D.pl, D.hs, D.b, D.ah 0 _ rfl, rfl, by show vs.length = _; omega, fun j v q => by
    have := D.ah (j + 1) v q
    rwa [show sp + 1 + (j + 1) = sp + 1 + 1 + j from by omega] at this, D.row, D.apart⟩
theorem rel_take2 {R : List Tk} {sp : Nat} {c : CA} {hs b : Bool} {tv r : Value} {i : Int} {ti t3 tp tp' : Tok} {na pl : Nat} {ex ex' : List (Addr × Obj)}
    (D : Rel R sp sp c ⟨hs, tv, i, ti, [], na, pl, tp, b⟩ ex) (h : sp < 1000) (A : Apart c (ex ++ ex')) (T : TokOf (ex ++ ex') r (tokAt R (sp + 1))) :
    Rel R (sp + 1) (max sp (sp + 1)) c ⟨hashTk (tokAt R (sp + 1)), r, (tokAt R (sp + 1)).at', t3, [], na, min (sp + 2) R.length, tp', hashTk (tokAt R sp)⟩ (ex ++ ex') := by
  have e : max sp (sp + 1) = sp + 1 := by omega
  rw [e]
  exact ⟨Nat.le_refl _, by omega, D.rl, D.ok, rfl, rfl, by simp, T, rfl, by simp, fun j v q => (nomatch q), ⟨D.row.1, fun i v t a b => (D.row.2 i v t a b).mono sub_app⟩, A⟩
--MAC
local macro_rules | `(tactic| walk_at "call builtin:list.pop") => `(tactic| (k_here; (with_reducible show wpAny _ _ (call (Value.builtin _) [Value.ref _, Value.int 0 _]) _ _ _); k_dflt (refine' pop0_lst ?k1 ?k2 ?k3 ?k4 ?_; (case k1 | k2 => k_asm); (case k3 => k_upd); (case k4 => omega); k_whole); intro h' F' N'; try k_sweep))
--END
section
variable {w : World} {dp un : Nat} {gd : Option (List Code)} {cn : Str} {cs : Scope} {a : Addr} {ccd : Value} {cl : List (Str × Addr)} {outer : List Env} {A₀ : Around} {base h₀ : Heap} {L : Addr} {m : Str → Option Value} {s : Shared} {E : Value → Shared → Prop}
  {p : Program} {loose : List Str} {mean : ExcName → Option Value} {mg mb : Str → Option Value} {Q : Value → Shared → Prop}
-- a fetch, in the words of the row
theorem fetch_R {c : CA} {σ : CS} {R : List Tk} {ex : List (Addr × Obj)} {sp se : Nat}
    (B : Below A₀ base outer h₀) (F : Fr h₀ L s.heap m) (X : (hd.heap_1 w.params).In h₀) (N : News h₀ L s.heap (led c σ ex)) (T : Top p loose mean mg mb h₀) (hk : cs.kind = .function) (hd : dp + 8 < recursionLimit) (hu : un + 60 < cLine)
    (D : Rel R sp se c σ ex)
    (ret : ∀ r h' tk' t' ex', Fr h₀ L h' m → News h₀ L h' (led c { σ with hs := hashTk (tokAt R (se + 1)), pl := min (se + 2) R.length, tp := t', b := hashTk (tokAt R se) } (ex ++ ex')) → (∀ p ∈ ex', s.heap.get? p.1 = none) → Apart c (ex ++ ex') → TokOf (ex ++ ex') r (tokAt R (se + 1)) → Q r { s with heap := h', toks := tk' }) :
    wpAny (model PySem.Challenge.rw_sj0029_01.row.prog w) (ktrTop dp un gd cn cs L a ccd cl outer) (call (.ref 117) [.ref c.xc]) Q E s := by
  refine fetch_in B F X N T hk hd hu D.apart (by rw [D.pl]; omega) D.rl D.ok D.row fun r h' tk' t' ex' F' N' fr tO => ?_
  have e : tokAt R σ.pl = tokAt R (se + 1) := by rw [D.pl, tokAt_min]
  have e2 : min (σ.pl + 1) R.length = min (se + 2) R.length := by rw [D.pl]; omega
  rw [e, e2, D.hs] at N'
  rw [e] at tO
  exact ret r h' tk' t' ex' F' N' fr (D.apart.app N fr) tO
theorem take_in {c : CA} {σ : CS} {R : List Tk} {ex : List (Addr × Obj)} {sp se : Nat}
    (B : Below A₀ base outer h₀) (F : Fr h₀ L s.heap m) (X : (hd.heap_1 w.params).In h₀) (N : News h₀ L s.heap (led c σ ex)) (T : Top p loose mean mg mb h₀) (hk : cs.kind = .function) (hd : dp + 12 < recursionLimit) (hu : un + 80 < cLine)
    (D : Rel R sp se c σ ex) (hse : se < 1000)
    (ret : ∀ h' tk' σ' ex', Fr h₀ L h' m → News h₀ L h' (led c σ' (ex ++ ex')) → (∀ p ∈ ex', s.heap.get? p.1 = none) → Rel R (sp + 1) (max se (sp + 1)) c σ' (ex ++ ex') → Q σ.tv { s with heap := h', toks := tk' }) :
    wpAny (model PySem.Challenge.rw_sj0029_01.row.prog w) (ktrTop dp un gd cn cs L a ccd cl outer) (call (.ref 132) [.ref c.xc]) Q E s := by
  have D0 := D
  obtain ⟨xc, dc, la, xs, ds, lt, q, qc, toks, n⟩ := c
  obtain ⟨hs, tv, i, ti, ah, na, pl, tp, b⟩ := σ
  obtain ⟨Dle, Dtop, Drl, Dok, Dpl, Dhs, Db, Dtv, Di, Dlen, Dah, Drow, d0, e1, e2, e3⟩ := D
  dsimp only at *
  have N0 := N
  dsimp only [led] at N
  have d1 := ne_of_news N (a := dc) (b := ds) (by first | k_mem | fail) (by first | k_mem | fail) rfl
  have d2 := ne_of_news N (a := dc) (b := xs) (by first | k_mem | fail) (by first | k_mem | fail) rfl
  have d3 := ne_of_news N (a := dc) (b := xc) (by first | k_mem | fail) (by first | k_mem | fail) rfl
  have d4 := ne_of_news N (a := dc) (b := lt) (by first | k_mem | fail) (by first | k_mem | fail) rfl
  have d5 := ne_of_news N (a := la) (b := xs) (by first | k_mem | fail) (by first | k_mem | fail) rfl
  have d6 := ne_of_news N (a := la) (b := xc) (by first | k_mem | fail) (by first | k_mem | fail) rfl
  have d7 := ne_of_news N (a := ds) (b := la) (by first | k_mem | fail) (by first | k_mem | fail) rfl
  have d8 := ne_of_news N (a := dc) (b := la) (by first | k_mem | fail) (by first | k_mem | fail) rfl
  obtain ⟨tx, rtx⟩ : ∃ tx, tv = .ref tx := let ⟨x, _, _, _, _, _, h⟩ := Dtv; ⟨x, h.ref⟩
  subst rtx
  cases ah with
  | cons v vs =>
    obtain ⟨x, dx, q', t1, vv, t3, hT⟩ := Dah 0 v rfl
    obtain ⟨rfl, m1, m2, hv⟩ := hT
    have N1 := news_sub N (cons_in (in_led m1) (cons_in (in_led m2) (l := (xc, _) :: (dc, _) :: (la, _) :: (xs, _) :: (ds, _) :: (lt, _) :: ex) (by first | ktd_sub | fail)))
    have d10 := ne_of_news N1 (a := dc) (b := x) (by first | k_mem | fail) (by first | k_mem | fail) rfl
    have d11 := ne_of_news N1 (a := dc) (b := dx) (by first | k_mem | fail) (by first | k_mem | fail) rfl
    have d12 := ne_of_news N1 (a := la) (b := x) (by first | k_mem | fail) (by first | k_mem | fail) rfl
    have d13 := ne_of_news N1 (a := la) (b := dx) (by first | k_mem | fail) (by first | k_mem | fail) rfl
    have hz : 0 < (Value.ref x :: vs).length := Nat.succ_pos _
    have hz2 : (Value.ref x :: vs).length ≤ 1000 := by omega
    have hvs : vs.length ≤ 1000 := Nat.le_of_succ_le hz2
    refine wpAny_call ?_
    k_dflt cell_enter
    intro g' L' hh G' S' l' F' N' B' X' T'
    k_lt l'
    try dsimp only
    refine foldL F' ?_
    intro tk0 Ak mk F8
    k_fold
    k_steps
    rename Fr g' _ _ _ => F1
    rename News g' _ _ _ => N2
    obtain ⟨Fa, Na⟩ := back F N1 G' F1 (news_sub N2 (n' := (xc, _) :: (dc, _) :: (la, _) :: (xs, _) :: (ds, _) :: (lt, _) :: ex) (by first | ktd_sub | fail))
    exact ret _ _ ⟨hs, .ref x, (tokAt R (sp + 1)).at', t3, vs, na + 1, pl, tp, b⟩ [] Fa (by rw [List.append_nil]; exact Na) (fun _ h => nomatch h) (by rw [List.append_nil]; exact rel_take1 D0)
  | nil =>
    have hz : ([] : List Value).length = 0 := rfl
    refine wpAny_call ?_
    k_dflt cell_enter
    intro g' L' hh G' S' l' F' N' B' X' T'
    clear l'
    try dsimp only
    refine foldL F' ?_
    intro tk0 Ak mk F8
    k_fold
    k_steps
    rename Fr g' _ _ _ => F1
    rename News g' _ _ _ => N1
    have ese : se = sp := by simp only [List.length_nil] at Dlen; omega
    refine ⟨fetch_R (c := ⟨xc, dc, la, xs, ds, lt, q, qc, toks, n⟩) (σ := ⟨hs, .ref tx, i, ti, [], na, pl, tp, b⟩) (by assumption) F1 (by assumption) N1 (by assumption) rfl ?_ ?_ D0 ?_⟩
    · show dp + 1 + 8 < _; omega
    · show un + 3 + 60 < _; omega
    intro r h' tk' t' ex' F2 N2 fr Ap tO
    try dsimp only
    obtain ⟨x, dx, q', t1, vv, t3, rfl, m1, m2, hv⟩ := tO
    dsimp only [led] at N2
    have N3 := news_sub N2 (cons_in (in_led m1) (cons_in (in_led m2) (l := (xc, _) :: (dc, _) :: (la, _) :: (xs, _) :: (ds, _) :: (lt, _) :: (ex ++ ex')) (by first | ktd_sub | fail)))
    have e4 := Ap.a1
    have d10 := ne_of_news N3 (a := dc) (b := x) (.tail _ (.tail _ (.tail _ (.head _)))) (.head _) rfl
    have d11 := ne_of_news N3 (a := dc) (b := dx) (.tail _ (.tail _ (.tail _ (.head _)))) (.tail _ (.head _)) rfl
    have fr' : ∀ p ∈ ex', s.heap.get? p.1 = none := fun p hp => there_of G' F1 N1 (by first | kst_inAny | fail) (fr p hp)
    clear N2 N1 F1
    k_steps
    rename Fr g' _ _ _ => F1
    rename News g' _ _ _ => N2
    obtain ⟨Fa, Na⟩ := back F N G' F1 (news_sub N2 (n' := (xc, _) :: (dc, _) :: (la, _) :: (xs, _) :: (ds, _) :: (lt, _) :: (ex ++ ex')) (by first | ktd_sub | fail))
    subst ese
    exact ret _ _ ⟨hashTk (tokAt R (se + 1)), .ref x, (tokAt R (se + 1)).at', t3, [], na, min (se + 2) R.length, t', hashTk (tokAt R se)⟩ ex' Fa Na fr' (rel_take2 D0 hse Ap ⟨x, dx, q', t1, vv, t3, rfl, m1, m2, hv⟩)
end
theorem While_invM {prog : Program} {w : World} {A : Around} {E : Value → Shared → Prop} {Q : Flow → Shared → Prop} {s : Shared} {env : Env} {h₀ : Heap} {L : Addr} {test : Expr} {body : List Stmt} {pos : Pos} {m : Str → Option Value} {news : List (Addr × Obj)}
    (J : Nat → List (Addr × Obj) → Prop) {n₀ : Nat} (F : Fr h₀ L s.heap m) (N : News h₀ L s.heap news) (hJ : J n₀ news)
    (turn : ∀ n news₁ h₁ tk₁, Fr h₀ L h₁ m → News h₀ L h₁ news₁ → J n news₁ →
      wpAny (model prog w) A (isTrue test env (eval test env)) (fun b s₂ =>
        if b = true then wpAny (model prog w) A (execs body env) (WhileStep h₀ L s (fun n m' nx => m' = m ∧ J n nx) n) E s₂ else Q .next s₂) E { s with heap := h₁, toks := tk₁ })
    (hE : PassesOwn (model prog w) A env E := by passes_own) :
    wpAny (model prog w) A (exec (.While test body [] pos) env) Q E s :=
  While_inv (fun n m' nx => m' = m ∧ J n nx) F N ⟨rfl, hJ⟩ (fun n m₁ news₁ h₁ tk₁ F₁ N₁ ⟨e, j⟩ => turn n news₁ h₁ tk₁ (e ▸ F₁) N₁ j) hE
theorem rel_ahead {R : List Tk} {sp se : Nat} {c : CA} {hs b : Bool} {tv r : Value} {i : Int} {ti tp tp' : Tok} {na pl : Nat} {ah : List Value} {ex ex' : List (Addr × Obj)}
    (D : Rel R sp se c ⟨hs, tv, i, ti, ah, na, pl, tp, b⟩ ex) (h : se < 1000) (A : Apart c (ex ++ ex')) (T : TokOf (ex ++ ex') r (tokAt R (se + 1))) :
    Rel R sp (se + 1) c ⟨hashTk (tokAt R (se + 1)), tv, i, ti, ah ++ [r], na + 1, min (se + 2) R.length, tp', hashTk (tokAt R se)⟩ (ex ++ ex') := by
  have l := D.len
  have e := D.le
  dsimp only at l
  refine ⟨by omega, by omega, D.rl, D.ok, rfl, rfl, by simp, D.tv.mono sub_app, D.i, by simp; omega, fun j v q => ?_, ⟨D.row.1, fun i v t a b => (D.row.2 i v t a b).mono sub_app⟩, A⟩
  dsimp only at q
  rw [List.getElem?_append] at q
  split at q
  · exact (D.ah j v q).mono sub_app
  · rename_i hj
    have : j = ah.length := by
      cases hq : j - ah.length with
      | zero => omega
      | succ z => rw [hq] at q; cases q
    subst this
    rw [Nat.sub_self] at q
    cases q
    rwa [show sp + 1 + ah.length = se + 1 from by omega]
section
variable {w : World} {dp un : Nat} {gd : Option (List Code)} {cn : Str} {cs : Scope} {a : Addr} {ccd : Value} {cl : List (Str × Addr)} {outer : List Env} {A₀ : Around} {base h₀ : Heap} {L : Addr} {m : Str → Option Value} {s : Shared} {E : Value → Shared → Prop}
  {p : Program} {loose : List Str} {mean : ExcName → Option Value} {mg mb : Str → Option Value} {Q : Value → Shared → Prop}
local macro_rules | `(tactic| walk_at "exec While Compare cons nil") => `(tactic| (k_here; refine Hold.out ?_))
theorem peek_in {c : CA} {σ : CS} {R : List Tk} {ex : List (Addr × Obj)} {sp se nn : Nat} {tn : Tok}
    (B : Below A₀ base outer h₀) (F : Fr h₀ L s.heap m) (X : (hd.heap_1 w.params).In h₀) (N : News h₀ L s.heap (led c σ ex)) (T : Top p loose mean mg mb h₀) (hk : cs.kind = .function) (hd : dp + 12 < recursionLimit) (hu : un + 80 < cLine)
    (D : Rel R sp se c σ ex) (hse : se < 1000) (hn : 0 < nn) (hn3 : nn ≤ 3) (hsp : sp + 3 ≤ 1000)
    (ret : ∀ r h' tk' σ' ex', Fr h₀ L h' m → News h₀ L h' (led c σ' (ex ++ ex')) → (∀ p ∈ ex', s.heap.get? p.1 = none) → Rel R sp (max se (sp + nn)) c σ' (ex ++ ex') → TokOf (ex ++ ex') r (tokAt R (sp + nn)) → Q r { s with heap := h', toks := tk' }) :
    wpAny (model PySem.Challenge.rw_sj0029_01.row.prog w) (ktrTop dp un gd cn cs L a ccd cl outer) (call (.ref 125) [.ref c.xc, .int nn tn]) Q E s := by
  have hk0 : ((nn : Int) == 0) = false := by simp; omega
  refine wpAny_call ?_
  k_dflt cell_enter
  intro g' L' hh G' S' l' F' N' B' X' T'
  clear l'
  try dsimp only
  refine foldL F' ?_
  intro tk0 Ak mk F8
  k_fold
  k_steps
  rename Fr g' _ _ _ => F1
  rename News g' _ _ _ => N1
  refine ⟨While_invM (fun k nx => ∃ σ' ex' se', nx = led c σ' (ex ++ ex') ∧ Rel R sp se' c σ' (ex ++ ex') ∧ (∀ p ∈ ex', s.heap.get? p.1 = none) ∧ k = sp + nn - se' ∧ se' ≤ max se (sp + nn) ∧ se ≤ se') F1 N1 ⟨σ, [], se, by rw [List.append_nil], by rw [List.append_nil]; exact D, (fun _ h => nomatch h), rfl, by omega, by omega⟩ ?_⟩
  rintro k news₁ h₁ tk₁ F2 N2 ⟨σ', ex', se', rfl, D', fr', hk', hle, hge⟩
  obtain ⟨xc, dc, la, xs, ds, lt, q, qc, toks, n⟩ := c
  obtain ⟨hs, tv, i, ti, ah, na, pl, tp, b⟩ := σ'
  have D0 := D'
  obtain ⟨Dle, Dtop, Drl, Dok, Dpl, Dhs, Db, Dtv, Di, Dlen, Dah, Drow, d0, e1, e2, e3⟩ := D'
  dsimp only at *
  clear N1 F1
  dsimp only [led] at N2
  have d5 := ne_of_news N2 (a := la) (b := xs) (.tail _ (.tail _ (.head _))) (.tail _ (.tail _ (.tail _ (.head _)))) rfl
  have d6 := ne_of_news N2 (a := la) (b := xc) (.tail _ (.tail _ (.head _))) (.head _) rfl
  have d7 := ne_of_news N2 (a := la) (b := ds) (.tail _ (.tail _ (.head _))) (.tail _ (.tail _ (.tail _ (.tail _ (.head _))))) rfl
  have d8 := ne_of_news N2 (a := la) (b := dc) (.tail _ (.tail _ (.head _))) (.tail _ (.head _)) rfl
  have d9 : Dif la lt := ⟨d0⟩
  have hah : ah.length ≤ 1000 := by omega
  by_cases hlt : ah.length < nn
  · k_steps
    rename Fr g' _ _ _ => F3
    rename News g' _ _ _ => N3
    refine ⟨fetch_R (c := ⟨xc, dc, la, xs, ds, lt, q, qc, toks, n⟩) (σ := ⟨hs, tv, i, ti, ah, na, pl, tp, b⟩) (by assumption) F3 (by assumption) N3 (by assumption) rfl ?_ ?_ D0 ?_⟩
    · show dp + 1 + 8 < _; omega
    · show un + 3 + 60 < _; omega
    intro r h' tk' t' ex2 F4 N4 fr Ap tO
    have fr2 : ∀ p ∈ ex2, s.heap.get? p.1 = none := fun p hp => there_of G' F3 N3 (by first | kst_inAny | fail) (fr p hp)
    dsimp only [led] at N4
    clear N3 F3
    have e6 := Ap.a3
    have d5 := ne_of_news N4 (a := la) (b := xs) (.tail _ (.tail _ (.head _))) (.tail _ (.tail _ (.tail _ (.head _)))) rfl
    have d6 := ne_of_news N4 (a := la) (b := xc) (.tail _ (.tail _ (.head _))) (.head _) rfl
    have d7 := ne_of_news N4 (a := la) (b := ds) (.tail _ (.tail _ (.head _))) (.tail _ (.tail _ (.tail _ (.tail _ (.head _))))) rfl
    have d8 := ne_of_news N4 (a := la) (b := dc) (.tail _ (.tail _ (.head _))) (.tail _ (.head _)) rfl
    k_steps
    rename Fr g' _ _ _ => F5
    rename News g' _ _ _ => N5
    refine WhileStep.intro (n' := sp + nn - (se' + 1)) (news₂ := led ⟨xc, dc, la, xs, ds, lt, q, qc, toks, n⟩ ⟨hashTk (tokAt R (se' + 1)), tv, i, ti, ah ++ [r], na + 1, min (se' + 2) R.length, t', hashTk (tokAt R se')⟩ (ex ++ (ex' ++ ex2))) F5 ?_ (by omega)
      ⟨rfl, _, ex' ++ ex2, se' + 1, rfl, ?_, ?_, rfl, by omega, by omega⟩
    · rw [← List.append_assoc]; exact N5
    · rw [← List.append_assoc]; exact rel_ahead D0 (by omega) Ap tO
    · exact fun p hp => (List.mem_append.mp hp).elim (fr' p) (fr2 p)
  · obtain ⟨v, hv⟩ : ∃ v, ah[((nn : Int) - 1).toNat]? = some v := ⟨_, List.getElem?_eq_getElem (by omega)⟩
    k_steps
    rename Fr g' _ _ _ => F3
    rename News g' _ _ _ => N3
    obtain ⟨Fa, Na⟩ := back F N G' F3 N3
    have ese : se' = max se (sp + nn) := by omega
    subst ese
    refine ret v _ _ ⟨hs, tv, i, ti, ah, na, pl, tp, b⟩ ex' Fa Na fr' D0 ?_
    have := Dah _ _ hv
    rwa [show sp + 1 + ((nn : Int) - 1).toNat = sp + nn from by omega] at this
end
def isTk (k : Str) (t : Tk) (x : Str) : Bool := t.kd == k && (match t.val with | .s y => y == x | .r _ => false)
section
variable {w : World} {dp un : Nat} {gd : Option (List Code)} {cn : Str} {cs : Scope} {a : Addr} {ccd : Value} {cl : List (Str × Addr)} {outer : List Env} {A₀ : Around} {base h₀ : Heap} {L : Addr} {m : Str → Option Value} {s : Shared} {E : Value → Shared → Prop}
  {p : Program} {loose : List Str} {mean : ExcName → Option Value} {mg mb : Str → Option Value} {Q : Value → Shared → Prop}
theorem is_op_in {c : CA} {σ : CS} {t : Tk} {ex : List (Addr × Obj)} {x : Str} {tx : Tok}
    (B : Below A₀ base outer h₀) (F : Fr h₀ L s.heap m) (X : (hd.heap_1 w.params).In h₀) (N : News h₀ L s.heap (led c σ ex)) (T : Top p loose mean mg mb h₀) (hk : cs.kind = .function) (hd : dp + 4 < recursionLimit) (hu : un + 20 < cLine)
    (hT : TokOf ex σ.tv t) (hok : t.ok)
    (ret : ∀ h' tk', Fr h₀ L h' m → News h₀ L h' (led c σ ex) → Q (.bool (isTk "op" t x)) { s with heap := h', toks := tk' }) :
    wpAny (model PySem.Challenge.rw_sj0029_01.row.prog w) (ktrTop dp un gd cn cs L a ccd cl outer) (call (.ref 139) [.ref c.xc, .str x tx]) Q E s := by
  obtain ⟨xc, dc, la, xs, ds, lt, q, qc, toks, n⟩ := c
  obtain ⟨hs, tv, i, ti, ah, na, pl, tp, b⟩ := σ
  obtain ⟨y, dy, q', t1, vv, t3, hr, m1, m2, hv⟩ := hT
  dsimp only at *
  subst hr
  dsimp only [led] at N
  have N1 := news_sub N (cons_in (in_led m1) (cons_in (in_led m2) (l := (xc, _) :: (dc, _) :: (la, _) :: (xs, _) :: (ds, _) :: (lt, _) :: ex) (by first | ktd_sub | fail)))
  have fin : ∀ (g' : Heap) (L' : Addr) (m2' : Str → Option Value) (h2 : Heap) (tk2 : Nat) (bb : Bool), (∀ z o, s.heap.get? z = some o → z ∉ ((y, instObj 64 dy) :: (dy, tkD q' t.kd t1 vv t.at' t3) :: led ⟨xc, dc, la, xs, ds, lt, q, qc, toks, n⟩ ⟨hs, .ref y, i, ti, ah, na, pl, tp, b⟩ ex).map (·.1) → g'.get? z = some o) →
      Fr g' L' h2 m2' → News g' L' h2 ((y, instObj 64 dy) :: (dy, tkD q' t.kd t1 vv t.at' t3) :: led ⟨xc, dc, la, xs, ds, lt, q, qc, toks, n⟩ ⟨hs, .ref y, i, ti, ah, na, pl, tp, b⟩ ex) → bb = isTk "op" t x → Q (.bool bb) { s with heap := h2, toks := tk2 } := by
    intro g' L' m2' h2 tk2 bb G' F9 N9 hb
    try dsimp only
    subst hb
    obtain ⟨Fa, Na⟩ := back F N1 G' F9 (news_sub N9 (n' := (xc, _) :: (dc, _) :: (la, _) :: (xs, _) :: (ds, _) :: (lt, _) :: ex) (by first | ktd_sub | fail))
    exact ret _ _ Fa Na
  clear ret m1 m2
  obtain ⟨kd, val, at'⟩ := t
  dsimp only at *
  by_cases hkd : kd = "op"
  · obtain ⟨z, hz⟩ := hok (by simp [hkd])
    dsimp only at hz
    subst hkd hz
    obtain ⟨tz, rfl⟩ := hv
    refine wpAny_call ?_
    k_dflt cell_enter
    intro g' L' hh G' S' l' F' N' B' X' T'
    clear l'
    try dsimp only
    refine foldL F' ?_
    intro tk0 Ak mk F8
    k_fold
    k_steps
    exact fin _ _ _ _ _ _ G' (by assumption) (by assumption) rfl
  · have hk0 : (kd == "op") = false := by simpa using hkd
    refine wpAny_call ?_
    k_dflt cell_enter
    intro g' L' hh G' S' l' F' N' B' X' T'
    clear l'
    try dsimp only
    refine foldL F' ?_
    intro tk0 Ak mk F8
    k_fold
    k_steps
    refine fin _ _ _ _ _ _ G' (by assumption) (by assumption) ?_
    simp [isTk, hk0]
theorem is_key_in {c : CA} {σ : CS} {t : Tk} {ex : List (Addr × Obj)} {x : Str} {tx : Tok}
    (B : Below A₀ base outer h₀) (F : Fr h₀ L s.heap m) (X : (hd.heap_1 w.params).In h₀) (N : News h₀ L s.heap (led c σ ex)) (T : Top p loose mean mg mb h₀) (hk : cs.kind = .function) (hd : dp + 4 < recursionLimit) (hu : un + 20 < cLine)
    (hT : TokOf ex σ.tv t) (hok : t.ok)
    (ret : ∀ h' tk', Fr h₀ L h' m → News h₀ L h' (led c σ ex) → Q (.bool (isTk "key" t x)) { s with heap := h', toks := tk' }) :
    wpAny (model PySem.Challenge.rw_sj0029_01.row.prog w) (ktrTop dp un gd cn cs L a ccd cl outer) (call (.ref 146) [.ref c.xc, .str x tx]) Q E s := by
  obtain ⟨xc, dc, la, xs, ds, lt, q, qc, toks, n⟩ := c
  obtain ⟨hs, tv, i, ti, ah, na, pl, tp, b⟩ := σ
  obtain ⟨y, dy, q', t1, vv, t3, hr, m1, m2, hv⟩ := hT
  dsimp only at *
  subst hr
  dsimp only [led] at N
  have N1 := news_sub N (cons_in (in_led m1) (cons_in (in_led m2) (l := (xc, _) :: (dc, _) :: (la, _) :: (xs, _) :: (ds, _) :: (lt, _) :: ex) (by first | ktd_sub | fail)))
  have fin : ∀ (g' : Heap) (L' : Addr) (m2' : Str → Option Value) (h2 : Heap) (tk2 : Nat) (bb : Bool), (∀ z o, s.heap.get? z = some o → z ∉ ((y, instObj 64 dy) :: (dy, tkD q' t.kd t1 vv t.at' t3) :: led ⟨xc, dc, la, xs, ds, lt, q, qc, toks, n⟩ ⟨hs, .ref y, i, ti, ah, na, pl, tp, b⟩ ex).map (·.1) → g'.get? z = some o) →
      Fr g' L' h2 m2' → News g' L' h2 ((y, instObj 64 dy) :: (dy, tkD q' t.kd t1 vv t.at' t3) :: led ⟨xc, dc, la, xs, ds, lt, q, qc, toks, n⟩ ⟨hs, .ref y, i, ti, ah, na, pl, tp, b⟩ ex) → bb = isTk "key" t x → Q (.bool bb) { s with heap := h2, toks := tk2 } := by
    intro g' L' m2' h2 tk2 bb G' F9 N9 hb
    try dsimp only
    subst hb
    obtain ⟨Fa, Na⟩ := back F N1 G' F9 (news_sub N9 (n' := (xc, _) :: (dc, _) :: (la, _) :: (xs, _) :: (ds, _) :: (lt, _) :: ex) (by first | ktd_sub | fail))
    exact ret _ _ Fa Na
  clear ret m1 m2
  obtain ⟨kd, val, at'⟩ := t
  dsimp only at *
  by_cases hkd : kd = "key"
  · obtain ⟨z, hz⟩ := hok (by simp [hkd])
    dsimp only at hz
    subst hkd hz
    obtain ⟨tz, rfl⟩ := hv
    refine wpAny_call ?_
    k_dflt cell_enter
    intro g' L' hh G' S' l' F' N' B' X' T'
    clear l'
    try dsimp only
    refine foldL F' ?_
    intro tk0 Ak mk F8
    k_fold
    k_steps
    exact fin _ _ _ _ _ _ G' (by assumption) (by assumption) rfl
  · have hk0 : (kd == "key") = false := by simpa using hkd
    refine wpAny_call ?_
    k_dflt cell_enter
    intro g' L' hh G' S' l' F' N' B' X' T'
    clear l'
    try dsimp only
    refine foldL F' ?_
    intro tk0 Ak mk F8
    k_fold
    k_steps
    refine fin _ _ _ _ _ _ G' (by assumption) (by assumption) ?_
    simp [isTk, hk0]
theorem accept_op_in {c : CA} {σ : CS} {R : List Tk} {ex : List (Addr × Obj)} {sp se : Nat} {x : Str} {tx : Tok}
    (B : Below A₀ base outer h₀) (F : Fr h₀ L s.heap m) (X : (hd.heap_1 w.params).In h₀) (N : News h₀ L s.heap (led c σ ex)) (T : Top p loose mean mg mb h₀) (hk : cs.kind = .function) (hd : dp + 16 < recursionLimit) (hu : un + 100 < cLine)
    (D : Rel R sp se c σ ex) (hse : se < 1000)
    (yes : isTk "op" (tokAt R sp) x = true → ∀ h' tk' σ' ex', Fr h₀ L h' m → News h₀ L h' (led c σ' (ex ++ ex')) → (∀ p ∈ ex', s.heap.get? p.1 = none) → Rel R (sp + 1) (max se (sp + 1)) c σ' (ex ++ ex') → Q (.bool true) { s with heap := h', toks := tk' })
    (no : isTk "op" (tokAt R sp) x = false → ∀ h' tk', Fr h₀ L h' m → News h₀ L h' (led c σ ex) → Q (.bool false) { s with heap := h', toks := tk' }) :
    wpAny (model PySem.Challenge.rw_sj0029_01.row.prog w) (ktrTop dp un gd cn cs L a ccd cl outer) (call (.ref 153) [.ref c.xc, .str x tx]) Q E s := by
  refine wpAny_call ?_
  k_dflt cell_enter
  intro g' L' hh G' S' l' F' N' B' X' T'
  clear l'
  try dsimp only
  refine foldL F' ?_
  intro tk0 Ak mk F8
  k_fold
  k_steps
  rename Fr g' _ _ _ => F1
  rename News g' _ _ _ => N1
  refine ⟨is_op_in (c := c) (σ := σ) (ex := ex) (t := tokAt R sp) (by assumption) F1 (by assumption) N1 (by assumption) rfl ?_ ?_ D.tv (tokAt_ok D.ok _) ?_⟩
  · show dp + 1 + 4 < _; omega
  · show un + 3 + 20 < _; omega
  intro h' tk' F2 N2
  try dsimp only
  cases hb : isTk "op" (tokAt R sp) x with
  | true =>
    k_steps
    rename Fr g' _ _ _ => F3
    rename News g' _ _ _ => N3
    refine ⟨take_in (c := c) (σ := σ) (R := R) (sp := sp) (se := se) (by assumption) F3 (by assumption) N3 (by assumption) rfl ?_ ?_ D hse ?_⟩
    · show dp + 1 + 12 < _; omega
    · show un + 3 + 80 < _; omega
    intro h2 tk2 σ' ex' F4 N4 fr D4
    try dsimp only
    have fr' : ∀ p ∈ ex', s.heap.get? p.1 = none := fun p hp => there_of G' F3 N3 (fun p hp => ⟨_, hp⟩) (fr p hp)
    k_steps
    rename Fr g' _ _ _ => F5
    rename News g' _ _ _ => N5
    obtain ⟨Fa, Na⟩ := back F N G' F5 N5
    exact yes hb _ _ σ' ex' Fa Na fr' D4
  | false =>
    k_steps
    rename Fr g' _ _ _ => F3
    rename News g' _ _ _ => N3
    obtain ⟨Fa, Na⟩ := back F N G' F3 N3
    exact no hb _ _ Fa Na
theorem accept_key_in {c : CA} {σ : CS} {R : List Tk} {ex : List (Addr × Obj)} {sp se : Nat} {x : Str} {tx : Tok}
    (B : Below A₀ base outer h₀) (F : Fr h₀ L s.heap m) (X : (hd.heap_1 w.params).In h₀) (N : News h₀ L s.heap (led c σ ex)) (T : Top p loose mean mg mb h₀) (hk : cs.kind = .function) (hd : dp + 16 < recursionLimit) (hu : un + 100 < cLine)
    (D : Rel R sp se c σ ex) (hse : se < 1000)
    (yes : isTk "key" (tokAt R sp) x = true → ∀ h' tk' σ' ex', Fr h₀ L h' m → News h₀ L h' (led c σ' (ex ++ ex')) → (∀ p ∈ ex', s.heap.get? p.1 = none) → Rel R (sp + 1) (max se (sp + 1)) c σ' (ex ++ ex') → Q (.bool true) { s with heap := h', toks := tk' })
    (no : isTk "key" (tokAt R sp) x = false → ∀ h' tk', Fr h₀ L h' m → News h₀ L h' (led c σ ex) → Q (.bool false) { s with heap := h', toks := tk' }) :
    wpAny (model PySem.Challenge.rw_sj0029_01.row.prog w) (ktrTop dp un gd cn cs L a ccd cl outer) (call (.ref 160) [.ref c.xc, .str x tx]) Q E s := by
  refine wpAny_call ?_
  k_dflt cell_enter
  intro g' L' hh G' S' l' F' N' B' X' T'
  clear l'
  try dsimp only
  refine foldL F' ?_
  intro tk0 Ak mk F8
  k_fold
  k_steps
  rename Fr g' _ _ _ => F1
  rename News g' _ _ _ => N1
  refine ⟨is_key_in (c := c) (σ := σ) (ex := ex) (t := tokAt R sp) (by assumption) F1 (by assumption) N1 (by assumption) rfl ?_ ?_ D.tv (tokAt_ok D.ok _) ?_⟩
  · show dp + 1 + 4 < _; omega
  · show un + 3 + 20 < _; omega
  intro h' tk' F2 N2
  try dsimp only
  cases hb : isTk "key" (tokAt R sp) x with
  | true =>
    k_steps
    rename Fr g' _ _ _ => F3
    rename News g' _ _ _ => N3
    refine ⟨take_in (c := c) (σ := σ) (R := R) (sp := sp) (se := se) (by assumption) F3 (by assumption) N3 (by assumption) rfl ?_ ?_ D hse ?_⟩
    · show dp + 1 + 12 < _; omega
    · show un + 3 + 80 < _; omega
    intro h2 tk2 σ' ex' F4 N4 fr D4
    try dsimp only
    have fr' : ∀ p ∈ ex', s.heap.get? p.1 = none := fun p hp => there_of G' F3 N3 (fun p hp => ⟨_, hp⟩) (fr p hp)
    k_steps
    rename Fr g' _ _ _ => F5
    rename News g' _ _ _ => N5
    obtain ⟨Fa, Na⟩ := back F N G' F5 N5
    exact yes hb _ _ σ' ex' Fa Na fr' D4
  | false =>
    k_steps
    rename Fr g' _ _ _ => F3
    rename News g' _ _ _ => N3
    obtain ⟨Fa, Na⟩ := back F N G' F3 N3
    exact no hb _ _ Fa Na
end
-- the object at e has the dict od
def Has (e : Addr) (od : Option Addr) (h : Heap) : Prop := ∃ o, h.get? e = some o ∧ o.dict = od
def DictOk (f : Obj → Obj) : Prop := ∀ o, (f o).dict = o.dict ∧ (o.isFreed = false → (f o).isFreed = false)
-- a tree that turns no object's dict, and calls nothing
inductive Tame : {α : Type} → Sem α → Prop
  | pure {α : Type} {a : α} : Tame (Sem.pure a)
  | raise {α : Type} {e : Value} : Tame (Sem.raise e : Sem α)
  | unsupported {α : Type} {w : String} : Tame (Sem.unsupported w : Sem α)
  | rule {α : Type} {t : String} {k : Unit → Sem α} : Tame (k ()) → Tame (Sem.rule t k)
  | load {α : Type} {a : Addr} {q : Option Value} {k : Obj → Sem α} : (∀ o, Tame (k o)) → Tame (Sem.load a q k)
  | update {α : Type} {a : Addr} {q : Option Value} {f : Obj → Obj} {k : Unit → Sem α} : DictOk f → Tame (k ()) → Tame (Sem.update a q f k)
  | alloc {α : Type} {o : Obj} {k : Addr → Sem α} : (∀ a, Tame (k a)) → Tame (Sem.alloc o k)
  | stack {α : Type} {k : List (Code × Pos) → Sem α} : (∀ l, Tame (k l)) → Tame (Sem.stack k)
  | fresh {α : Type} {k : Tok → Sem α} : (∀ l, Tame (k l)) → Tame (Sem.fresh k)
theorem Tame.bind {α β : Type} {m : Sem α} {f : α → Sem β} (h : Tame m) (hf : ∀ a, Tame (f a)) : Tame (m.bind f) := by
  induction h with
  | pure => exact hf _
  | raise => exact .raise
  | unsupported => exact .unsupported
  | rule _ ih => exact .rule ih
  | load _ ih => exact .load ih
  | update d _ ih => exact .update d ih
  | alloc _ ih => exact .alloc ih
  | stack _ ih => exact .stack ih
  | fresh _ ih => exact .fresh ih
theorem Has.update {e a : Addr} {od : Option Addr} {h : Heap} {f : Obj → Obj} (x : Has e od h) (d : DictOk f) : Has e od (h.update a f) := by
  obtain ⟨o, ho, hd⟩ := x
  by_cases q : a = e
  · subst q
    exact ⟨f o, Heap.get?_update_self f ho ((d o).2 (Heap.get?_some_iff.mp ho).2), (d o).1.trans hd⟩
  · exact ⟨o, (Heap.get?_update_ne _ _ _ _ (Ne.symm q)).trans ho, hd⟩
theorem Has.push {e : Addr} {od : Option Addr} {h : Heap} {o : Obj} (x : Has e od h) : Has e od (h.push o) := let ⟨o, ho, hd⟩ := x; ⟨o, Heap.get?_push_of_some _ ho, hd⟩
theorem Tame.wp {α : Type} {M : Model} {Γ : Ctx} {t : Sem α} (T : Tame t) {e : Addr} {od : Option Addr} : ∀ {Q : α → Pos → Shared → Prop} {E : Value → Pos → Shared → Prop} {p : Pos} {s : Shared}, Has e od s.heap → Sem.wp M Γ t Q E p s →
    Sem.wp M Γ t (fun a p' s' => Q a p' s' ∧ Has e od s'.heap) (fun a p' s' => E a p' s' ∧ Has e od s'.heap) p s := by
  induction T with
  | pure => intro Q E p s x h; exact ⟨h, x⟩
  | raise => intro Q E p s x h; exact ⟨h, x⟩
  | unsupported => intro Q E p s x h; exact h
  | rule _ ih => intro Q E p s x h; exact ih x h
  | load _ ih => intro Q E p s x h; obtain ⟨o, ho, h⟩ := h; exact ⟨o, ho, ih o x h⟩
  | update d _ ih => intro Q E p s x h; exact ⟨h.1, ih (x.update d) h.2⟩
  | alloc _ ih => intro Q E p s x h; exact ih _ x.push h
  | stack _ ih => intro Q E p s x h; exact ih _ x h
  | fresh _ ih => intro Q E p s x h; exact ih _ x h
theorem Tame.any {α : Type} {M : Model} {A : Around} {t : Sem α} (T : Tame t) {e : Addr} {od : Option Addr} {Q : α → Shared → Prop} {E : Value → Shared → Prop} {s : Shared} (x : Has e od s.heap) (h : wpAny M A t Q E s) :
    wpAny M A t (fun a s' => Q a s' ∧ Has e od s'.heap) (fun a s' => E a s' ∧ Has e od s'.heap) s := fun Γ p hΓ => T.wp x (h Γ p hΓ)
theorem tm_bind {α β : Type} {m : Sem α} {f : α → Sem β} (h : Tame m) (hf : ∀ a, Tame (f a)) : Tame (m >>= f) := h.bind hf
theorem tm_pure {α : Type} {a : α} : Tame (Pure.pure a : Sem α) := .pure
theorem tm_uns {α : Type} {w : String} : Tame (unsupported w : Sem α) := .unsupported
theorem tm_load {a : Addr} : Tame (load a) := .load fun _ => .pure
theorem tm_stack : Tame stack := .stack fun _ => .pure
theorem tm_alloc {o : Obj} : Tame (alloc o) := .alloc fun _ => .pure
theorem tm_update {a : Addr} {f : Obj → Obj} (d : DictOk f) : Tame (update a f) := .update d .pure
theorem ok_fields {f : Array Value → Array Value} : DictOk (Obj.mapFields f) := fun o => by
  obtain ⟨c, d, dt, sl⟩ := o
  cases dt <;> exact ⟨rfl, fun h => by first | rfl | exact h⟩
theorem tm_fieldsOf (v : Value) : Tame (fieldsOf v) := by
  unfold fieldsOf
  split
  · refine tm_bind tm_load fun o => ?_
    split
    · exact tm_pure
    · exact tm_uns
  · exact tm_uns
theorem tm_field (v : Value) (i : Nat) : Tame (field v i) := by
  unfold field
  refine tm_bind (tm_fieldsOf v) fun o => ?_
  split
  · exact tm_pure
  · exact tm_uns
theorem tm_setField (v : Value) (i : Nat) (x : Value) : Tame (setField v i x) := by
  unfold setField
  split
  · unfold updateField
    refine tm_bind tm_load fun o => ?_
    split
    · split
      · exact tm_update ok_fields
      · exact tm_uns
    · exact tm_uns
  · exact tm_uns
theorem tm_setFlight (e : Value) (f : Option Addr) : Tame (setFlight e f) := by
  unfold setFlight
  refine tm_bind (tm_field _ _) fun o => ?_
  split
  · exact tm_setField _ _ _
  · exact tm_pure
theorem tm_newFields (ty : String) (vs : List Value) : Tame (newFields ty vs) := by
  unfold newFields newObj newObjAsIs
  dsimp only
  split
  · exact tm_bind tm_uns fun _ => tm_bind tm_alloc fun _ => tm_pure
  · exact tm_bind tm_alloc fun _ => tm_pure
theorem tm_behind (env : Env) (outer : List Env) : Tame (behindIsImport env outer) := by
  unfold behindIsImport
  split
  · exact tm_pure
  · split
    · exact tm_pure
    · exact tm_bind (tm_field _ _) fun _ => tm_pure
theorem tm_back (env : Env) (b : Bool) (outer : List Env) : Tame (keptBack env b outer) := by
  unfold keptBack
  split
  · split
    · exact tm_pure
    · unfold underTheClaimsCaller
      exact tm_bind (tm_bind tm_stack fun _ => tm_pure) fun _ => tm_pure
  · exact tm_pure
theorem tm_ready : ∀ l : List Env, Tame (readyFrames l)
  | [] => tm_pure
  | env :: outer => by
    unfold readyFrames
    split
    · refine tm_bind tm_load fun o => ?_
      split
      · exact tm_pure
      · refine tm_bind (tm_behind _ _) fun _ => tm_bind (tm_back _ _ _) fun _ => tm_bind (tm_update fun o => ⟨rfl, fun h => ?_⟩) fun _ => tm_ready outer
        obtain ⟨c, d, dt, sl⟩ := o
        cases dt <;> first | rfl | exact h
    · exact tm_uns
theorem tm_frameOf (env : Env) : Tame (PySem.frameOf env) := by
  unfold PySem.frameOf frameEnvs
  refine tm_bind (tm_bind tm_stack fun _ => tm_pure) fun l => ?_
  generalize List.dropWhile _ l = l'
  refine tm_bind ?_ fun r => ?_
  · cases l' with
    | nil => exact tm_pure
    | cons e r => exact tm_bind (tm_ready _) fun _ => tm_pure
  · split
    · exact tm_pure
    · exact tm_uns
theorem tm_place (f : Addr) (b : Bool) : Tame (entryPlaceOf f b) := by
  unfold entryPlaceOf
  refine tm_bind tm_stack fun l => ?_
  split <;> exact tm_pure
theorem tm_note (e : Value) (env : Env) : Tame (noteFrame e env) := by
  unfold noteFrame
  split
  · refine tm_bind (tm_field _ _) fun h => ?_
    have fin : ∀ f, Tame (do setField e 1 (← EntryCells.newEntry h (← PySem.frameOf env) .none (rawInt f) .none (← entryPlaceOf f (h != .none)))) := fun f =>
      tm_bind (tm_frameOf env) fun a => tm_bind (tm_place _ _) fun b => tm_bind (tm_newFields _ _) fun c => tm_setField _ _ _
    split
    · refine tm_bind (tm_field _ _) fun x => ?_
      split
      · exact tm_pure
      · exact tm_bind (tm_setField _ _ _) fun _ => fin _
    · exact fin _
  · exact tm_uns
theorem tm_leaving (env : Env) (e : Value) : Tame (leaving env e) := by
  unfold leaving
  exact tm_bind (tm_note _ _) fun _ => tm_setFlight _ _
abbrev errD (q : Q3) (kd : Str) (t1 : Tok) (i : Int) (t2 : Tok) (det : Str) (t3 : Tok) : Obj := dictOf [⟨q.h1, .str "kind" q.k1, .str kd t1⟩, ⟨q.h2, .str "at" q.k2, .int i t2⟩, ⟨q.h3, .str "detail" q.k3, .str det t3⟩] 3
abbrev excO (t d : Addr) : Obj := { cls := .ref 45, dict := some d, data := .fields #[.ref t, .none, .none, .none, .bool false, .none] }
-- the exception made
def ErrMade (kd : Str) (i : Int) (det : Str) (s : Shared) (v : Value) (s' : Shared) : Prop :=
  ∃ e t d h' tk q t1 t2 t3, v = .ref e ∧ s' = { s with heap := h', toks := tk } ∧ (∀ b o, s.heap.get? b = some o → h'.get? b = some o) ∧ h'.get? e = some (excO t d) ∧ h'.get? d = some (errD q kd t1 i t2 det t3) ∧ s.heap.get? e = none ∧ s.heap.get? d = none
theorem errMade_of {kd det : Str} {i : Int} {s : Shared} {h : Heap} {tk : Tok} {e d L t : Addr} {oe od oL ot : Obj} {q : Q3} {t1 t2 t3 : Tok} (D : PySem.W.X.Mem s.heap h [] [(d, od), (L, oL), (e, oe), (t, ot)]) (he : oe = excO t d) (hd : od = errD q kd t1 i t2 det t3) :
    ErrMade kd i det s (.ref e) ⟨h, s.gens, s.drawn, tk, s.os⟩ := by
  refine ⟨e, t, d, h, tk, q, t1, t2, t3, rfl, rfl, fun b o q => D.keep b o q (by simp [PySem.W.X.away]), ?_, ?_, ?_, ?_⟩
  · have := (D.nw (e, oe) (.tail _ (.tail _ (.head _)))).1; rw [← he]; exact this
  · have := (D.nw (d, od) (.head _)).1; rw [← hd]; exact this
  · exact (D.nw (e, oe) (.tail _ (.tail _ (.head _)))).2
  · exact (D.nw (d, od) (.head _)).2
abbrev topA (outer : List Env) : Around := { handled := none, depth := 600, frames := some outer, guards := none, units := 2000 }
theorem any_top {α : Type} {M : Model} {dp un : Nat} {gd : Option (List Code)} {outer : List Env} {t : Sem α} {Q : α → Shared → Prop} {E : Value → Shared → Prop} {s : Shared} (hd : dp ≤ 600) (hu : un ≤ 2000) (h : wpAny M (topA outer) t Q E s) :
    wpAny M { handled := none, depth := dp, frames := some outer, guards := gd, units := un } t Q E s := fun Γ p hΓ =>
  h Γ p ⟨hΓ.1, Nat.le_trans hΓ.2.1 hd, hΓ.2.2.1, (fun g e => by cases e), Nat.le_trans hΓ.2.2.2.2 hu⟩
section
local macro_rules | `(tactic| x_close) => `(tactic| ((rename PySem.W.X.Mem _ _ _ _ => D); exact errMade_of (q := ⟨_, _, _, _, _, _⟩) D rfl rfl))
set_option Elab.async true in
set_option maxHeartbeats 0 in
theorem mkErr {w : World} {s : Shared} {outer : List Env} {kd det : Str} {i : Int} {t1 t2 t3 : Tok} (K : (hd.heap_1 w.params).In s.heap) :
   wpAny (model PySem.Challenge.rw_sj0029_01.row.prog w) (topA outer) (call (.ref 45) [.str kd t1, .int i t2, .str det t3]) (ErrMade kd i det s) (fun _ _ => False) s := by
  x_run
end
-- (waits for the end of mkErr, which is made aside: so no twin of the program is laid)
theorem mkErr_made (P : Params) : mkErr.xo_1_1 P = mkErr.xo_1_1 P := rfl
-- the exception flies: what the ledger tells stands
def Fly (base : Heap) (l : List Env) (e d : Addr) (news : List (Addr × Obj)) (h : Heap) : Prop :=
  ∃ B a0, base.StaysIn B ∧ (∀ q ∈ news, B.get? q.1 = some q.2 ∧ base.get? q.1 = none) ∧ Heap.FlyingW B l e (.ref 45) a0 h ∧ Has e (some d) h
section
variable {M : Model} {A : Around} {E : Value → Shared → Prop} {s : Shared} {base g : Heap} {outer : List Env} {L e d t : Addr} {m : Str → Option Value} {name : Str} {scope : Scope} {a : Addr} {cd : Value} {Q : Unit → Shared → Prop} {news : List (Addr × Obj)}
theorem fly_first (K : Below A base outer g) (F : Fr g L s.heap m) (N : News g L s.heap ((e, excO t d) :: news)) (ne : ∀ q ∈ news, q.1 ≠ e) (hk : scope.kind = .function)
    (hQ : ∀ h', Fly base outer e d news h' → s.heap.UpToSlots h' → Q () { s with heap := h' }) :
    wpAny M (A.deeper (envOf name scope L a cd)) (leaving (envOf name scope L a cd) (.ref e)) Q E s := by
  have K' := K.push (name := name) (a := a) (cd := cd) F hk
  have hin : ∀ env ∈ (envOf name scope L a cd :: outer), ∀ b, env.frame = some b → b ∈ e :: (envOf name scope L a cd :: outer).filterMap (·.frame) := fun env he b hb => .tail _ (List.mem_filterMap.mpr ⟨env, he, hb⟩)
  have N0 := N _ (.head _)
  have be : base.get? e = none := fresh_of_stays K.stays N0.2.2
  have st : base.StaysIn (hideAll s.heap (e :: (envOf name scope L a cd :: outer).filterMap (·.frame))) := fun b o q => hideAll_get _ (K'.stays b o q) fun hm => by
    rcases List.mem_cons.mp hm with rfl | hm
    · rw [be] at q; cases q
    · rw [(K'.frames.mem hm).1] at q; cases q
  have hl : ∀ q ∈ news, (hideAll s.heap (e :: (envOf name scope L a cd :: outer).filterMap (·.frame))).get? q.1 = some q.2 ∧ base.get? q.1 = none := fun q hq => by
    have Nq := N q (.tail _ hq)
    refine ⟨hideAll_get _ Nq.1 fun hm => ?_, fresh_of_stays K.stays Nq.2.2⟩
    rcases List.mem_cons.mp hm with hm | hm
    · exact ne q hq hm
    obtain ⟨env, he, hf⟩ := List.mem_filterMap.mp hm
    rcases List.mem_cons.mp he with rfl | he
    · exact Nq.2.1 (Option.some.inj hf).symm
    · obtain ⟨o, ho, _⟩ := (K.frames.mem (List.mem_filterMap.mpr ⟨env, he, hf⟩)).2
      rw [Nq.2.2] at ho; cases ho
  have hen : (hideAll s.heap (e :: (envOf name scope L a cd :: outer).filterMap (·.frame))).get? e = none := hideAll_none _ (.head _)
  have run : wpAny M (A.deeper (envOf name scope L a cd)) (leaving (envOf name scope L a cd) (.ref e)) (fun _ s' => ∃ h', s' = { s with heap := h' } ∧ Heap.LeftW (hideAll s.heap (e :: (envOf name scope L a cd :: outer).filterMap (·.frame))) (envOf name scope L a cd :: outer) e (.ref 45) (.ref t) s.heap h') E s :=
    wpAny_leaving_firstW (oe := excO t d) (vs := #[.ref t, .none, .none, .none, .bool false, .none]) K'.stack (funFrames_hide K'.frames hin) rfl N0.1 (fun b o q => of_hideAll _ q) hen rfl rfl rfl fun h' hL => ⟨h', rfl, hL⟩
  refine wpAny_mono ((tm_leaving _ _).any (e := e) (od := some d) ⟨_, N0.1, rfl⟩ run) (fun _ s' h => ?_) fun _ _ h => h.1
  obtain ⟨⟨h', rfl, k1, ⟨_, _, k2⟩, k3, k4⟩, hh⟩ := h
  exact hQ h' ⟨_, _, st, hl, ⟨k1, hen, k2, k3⟩, hh⟩ k4
theorem fly_on (K : Below A base outer g) (R : Fly base (envOf name scope L a cd :: outer) e d news s.heap)
    (hQ : ∀ h', Fly base outer e d news h' → s.heap.UpToSlots h' → Q () { s with heap := h' }) :
    wpAny M (A.deeper (envOf name scope L a cd)) (leaving (envOf name scope L a cd) (.ref e)) Q E s := by
  obtain ⟨B, a0, hB, hl, hfl, hh⟩ := R
  have run : wpAny M (A.deeper (envOf name scope L a cd)) (leaving (envOf name scope L a cd) (.ref e)) (fun _ s' => ∃ h', s' = { s with heap := h' } ∧ Heap.FlyingW B outer e (.ref 45) a0 h' ∧ s.heap.UpToSlots h') E s :=
    wpAny_leaves_onW (Around.frames_deeper K.stack) rfl hfl fun h' x1 x2 => ⟨h', rfl, x1, x2⟩
  refine wpAny_mono ((tm_leaving _ _).any hh run) (fun _ s' h => ?_) fun _ _ h => h.1
  obtain ⟨⟨h', rfl, x1, x2⟩, hh'⟩ := h
  exact hQ h' ⟨B, a0, hB, hl, x1, hh'⟩ x2
end
section
variable {M : Model} {A : Around} {E : Value → Shared → Prop} {s : Shared} {env : Env}
theorem raise_own {w : World} {x : Sem Value} {Q : Flow → Shared → Prop} (hh : A.handled = none)
    (h : wpAny M A x (fun v s₁ => ∃ e t d, v = .ref e ∧ (hd.heap_1 w.params).In s₁.heap ∧ s₁.heap.get? e = some (excO t d) ∧ E (.ref e) s₁) E s) :
    wpAny M A (raiseStmt env (some x) none) Q E s := by
  unfold raiseStmt
  refine wpAny_bind (wpAny_mono h (fun v s₁ h₁ => ?_) fun _ _ x => x)
  obtain ⟨e, t, d, rfl, K, he, hE⟩ := h₁
  have hC : ∃ nm q N bs hdct sn sub ab col dd k0 k1 k2 k3 k5, s₁.heap.get? 45 = some (excClassObj nm q 45 N bs [.ref 32, .type "Exception", .type "BaseException", .type "object"] hdct sn sub ab col dd k0 k1 k2 k3 k5 "Exception.__new__") :=
    ⟨_, _, _, _, _, _, _, _, _, _, _, _, _, _, _, K 45 _ (by k_is)⟩
  obtain ⟨nm, q, N, bs, hdct, sn, sub, ab, col, dd, k0, k1, k2, k3, k5, hC⟩ := hC
  obtain ⟨hp, g, dr, tk, os⟩ := s₁
  dsimp only at he hC
  have hcB : (Value.ref 45 :: [Value.ref 32, .type "Exception", .type "BaseException", .type "object"]).contains (.type "BaseException") = true := by decide
  repeat (first | with_reducible refine wpAny_loadPart_at he ?_ | with_reducible refine wpAny_loadPart_at hC ?_ | (with_reducible refine wpAny_isSubtype_exc hC ?_; rw [hcB]) | wp_step)
  exact wpAny_raiseNew_none hh hE
end
section
variable {w : World} {dp un : Nat} {gd : Option (List Code)} {cn : Str} {cs : Scope} {a : Addr} {ccd : Value} {cl : List (Str × Addr)} {outer : List Env} {A₀ : Around} {base h₀ : Heap} {L : Addr} {m : Str → Option Value} {s : Shared} {E : Value → Shared → Prop}
  {p : Program} {loose : List Str} {mean : ExcName → Option Value} {mg mb : Str → Option Value} {Q : Value → Shared → Prop}
local macro_rules | `(tactic| walk_at "exec Raise some none") => `(tactic| (k_here; refine Hold.out ?_))
theorem fail_in {c : CA} {σ : CS} {ex : List (Addr × Obj)} {kd det : Str} {t1 t2 : Tok}
    (B : Below A₀ base outer h₀) (F : Fr h₀ L s.heap m) (X : (hd.heap_1 w.params).In h₀) (N : News h₀ L s.heap (led c σ ex)) (T : Top p loose mean mg mb h₀) (hk : cs.kind = .function) (hd : dp + 10 < 600) (hu : un + 100 < 2000)
    (err : ∀ e d q u1 u2 u3 h' tk', Fly base (envX cn cs L a ccd cl :: outer) e d ((d, errD q kd u1 σ.i u2 det u3) :: led c σ ex) h' → s.heap.UpToSlots h' → E (.ref e) { s with heap := h', toks := tk' }) :
    wpAny (model PySem.Challenge.rw_sj0029_01.row.prog w) (ktrTop dp un gd cn cs L a ccd cl outer) (call (.ref 189) [.ref c.xc, .str kd t1, .str det t2]) Q E s := by
  refine wpAny_call ?_
  k_dflt cell_enter
  intro g' L' hh G' S' l' F' N' B' X' T'
  clear l'
  try dsimp only
  k_steps
  refine ⟨?_⟩
  rw [arm_exec_Raise]
  refine wpAny_bind (wpAny_standAt (raise_own (w := w) rfl (wpAny_bind (wpAny_mono ?_ (fun v s₁ h₁ => wpAny_bind (wpAny_standAt (wpAny_pure h₁))) fun _ _ x => x))))
  k_steps
  rename Fr g' _ _ _ => F1
  rename News g' _ _ _ => N1
  have k0 : ∀ b o, s.heap.get? b = some o → _ := fun b o e => keeps_of (M := []) G' S' F1 N1 (fun p hp _ => hp) b o e (by simp)
  refine ⟨any_top (by show dp + 1 ≤ 600; omega) (by show un + 3 ≤ 2000; omega) (wpAny_mono (mkErr (X'.keeps F1.keep)) (fun v s₁ h₁ => ?_) fun _ _ z => z.elim)⟩
  obtain ⟨e, t, d, h', tk, q, u1, u2, u3, rfl, rfl, keep, he, hd', fe, fd⟩ := h₁
  refine ⟨e, t, d, rfl, X'.keeps fun b o z => keep _ _ (F1.keep b o z), he, ?_⟩
  have F2 := F1.of_stays (fun b o z => keep _ _ (F1.keep b o z)) (Heap.UpToSlots.of_keeps keep)
  have N2 : News g' L' h' ((e, excO t d) :: (d, errD q kd u1 σ.i u2 det u3) :: led c σ ex) := fun p hp => by
    rcases List.mem_cons.mp hp with rfl | hp
    · exact ⟨he, fresh_L F1 fe⟩
    · rcases List.mem_cons.mp hp with rfl | hp
      · exact ⟨hd', fresh_L F1 fd⟩
      · exact ⟨keep _ _ (N1 p hp).1, (N1 p hp).2⟩
  refine fly_first (t := t) B' F2 N2 (fun p hp z => ?_) rfl fun h2 R up => err e d q u1 u2 u3 h2 _ R ((Heap.UpToSlots.of_keeps fun b o z => keep _ _ (k0 b o z)).trans up)
  rcases List.mem_cons.mp hp with rfl | hp
  · exact (ne_of_news N2 (.tail _ (.head _)) (.head _) rfl).ne z
  · have := (N1 p hp).1
    rw [z] at this
    dsimp only at this fe
    rw [fe] at this; cases this
end
theorem handed_val {v : Vl} {vv : Value} (h : v.Is vv) : handedIn vv = true := by
  cases v with
  | s x => obtain ⟨t, rfl⟩ := h; rfl
  | r a => cases h; rfl
--MAC
local macro_rules | `(tactic| k_handed) => `(tactic| assumption)
--END
section
variable {w : World} {dp un : Nat} {gd : Option (List Code)} {cn : Str} {cs : Scope} {a : Addr} {ccd : Value} {cl : List (Str × Addr)} {outer : List Env} {A₀ : Around} {base h₀ : Heap} {L : Addr} {m : Str → Option Value} {s : Shared} {E : Value → Shared → Prop}
  {p : Program} {loose : List Str} {mean : ExcName → Option Value} {mg mb : Str → Option Value} {Q : Value → Shared → Prop}
theorem expect_op_in {c : CA} {σ : CS} {R : List Tk} {ex : List (Addr × Obj)} {sp se : Nat} {x : Str} {tx : Tok}
    (B : Below A₀ base outer h₀) (F : Fr h₀ L s.heap m) (X : (hd.heap_1 w.params).In h₀) (N : News h₀ L s.heap (led c σ ex)) (T : Top p loose mean mg mb h₀) (hk : cs.kind = .function) (hd : dp + 20 < 600) (hu : un + 150 < 2000)
    (D : Rel R sp se c σ ex) (hse : se < 1000)
    (yes : isTk "op" (tokAt R sp) x = true → ∀ h' tk' σ' ex', Fr h₀ L h' m → News h₀ L h' (led c σ' (ex ++ ex')) → (∀ p ∈ ex', s.heap.get? p.1 = none) → Rel R (sp + 1) (max se (sp + 1)) c σ' (ex ++ ex') → Q .none { s with heap := h', toks := tk' })
    (no : isTk "op" (tokAt R sp) x = false → ∀ e d q u1 u2 u3 h' tk', Fly base (envX cn cs L a ccd cl :: outer) e d ((d, errD q "unexpected_token" u1 (tokAt R sp).at' u2 x u3) :: led c σ ex) h' → s.heap.UpToSlots h' → E (.ref e) { s with heap := h', toks := tk' }) :
    wpAny (model PySem.Challenge.rw_sj0029_01.row.prog w) (ktrTop dp un gd cn cs L a ccd cl outer) (call (.ref 167) [.ref c.xc, .str x tx]) Q E s := by
  have hrl : 600 < recursionLimit := by decide
  have hcl : 2000 < cLine := by decide
  refine wpAny_call ?_
  k_dflt cell_enter
  intro g' L' hh G' S' l' F' N' B' X' T'
  clear l'
  try dsimp only
  k_steps
  rename Fr g' _ _ _ => F1
  rename News g' _ _ _ => N1
  refine ⟨accept_op_in (c := c) (σ := σ) (ex := ex) (R := R) (sp := sp) (se := se) (by assumption) F1 (by assumption) N1 (by assumption) rfl ?_ ?_ D hse ?_ ?_⟩
  · show dp + 1 + 16 < _; omega
  · show un + 3 + 100 < _; omega
  · intro hb h2 tk2 σ' ex' F4 N4 fr D4
    try dsimp only
    have fr' : ∀ p ∈ ex', s.heap.get? p.1 = none := fun p hp => there_of G' F1 N1 (fun p hp => ⟨_, hp⟩) (fr p hp)
    k_steps
    rename Fr g' _ _ _ => F5
    rename News g' _ _ _ => N5
    obtain ⟨Fa, Na⟩ := back F N G' F5 N5
    exact yes hb _ _ σ' ex' Fa Na fr' D4
  · intro hb h2 tk2 F2 N2
    try dsimp only
    k_steps
    rename Fr g' _ _ _ => F3
    rename News g' _ _ _ => N3
    have k0 : ∀ b o, s.heap.get? b = some o → _ := fun b o e => keeps_of (M := []) G' S' F3 N3 (fun p hp _ => hp) b o e (by simp)
    refine ⟨fail_in (c := c) (σ := σ) (ex := ex) (by assumption) F3 (by assumption) N3 (by assumption) rfl ?_ ?_ ?_⟩
    · show dp + 1 + 10 < _; omega
    · show un + 3 + 100 < _; omega
    intro e d q u1 u2 u3 h3 tk3 R3 up
    rw [D.i] at R3
    exact fly_on B' R3 fun h4 R4 up4 => no hb e d q u1 u2 u3 h4 _ R4 (((Heap.UpToSlots.of_keeps fun b o z => k0 b o z).trans up).trans up4)
theorem expect_key_in {c : CA} {σ : CS} {R : List Tk} {ex : List (Addr × Obj)} {sp se : Nat} {x : Str} {tx : Tok}
    (B : Below A₀ base outer h₀) (F : Fr h₀ L s.heap m) (X : (hd.heap_1 w.params).In h₀) (N : News h₀ L s.heap (led c σ ex)) (T : Top p loose mean mg mb h₀) (hk : cs.kind = .function) (hd : dp + 20 < 600) (hu : un + 150 < 2000)
    (D : Rel R sp se c σ ex) (hse : se < 1000)
    (yes : isTk "key" (tokAt R sp) x = true → ∀ h' tk' σ' ex', Fr h₀ L h' m → News h₀ L h' (led c σ' (ex ++ ex')) → (∀ p ∈ ex', s.heap.get? p.1 = none) → Rel R (sp + 1) (max se (sp + 1)) c σ' (ex ++ ex') → Q .none { s with heap := h', toks := tk' })
    (no : isTk "key" (tokAt R sp) x = false → ∀ e d q u1 u2 u3 h' tk', Fly base (envX cn cs L a ccd cl :: outer) e d ((d, errD q "unexpected_token" u1 (tokAt R sp).at' u2 x u3) :: led c σ ex) h' → s.heap.UpToSlots h' → E (.ref e) { s with heap := h', toks := tk' }) :
    wpAny (model PySem.Challenge.rw_sj0029_01.row.prog w) (ktrTop dp un gd cn cs L a ccd cl outer) (call (.ref 174) [.ref c.xc, .str x tx]) Q E s := by
  have hrl : 600 < recursionLimit := by decide
  have hcl : 2000 < cLine := by decide
  refine wpAny_call ?_
  k_dflt cell_enter
  intro g' L' hh G' S' l' F' N' B' X' T'
  clear l'
  try dsimp only
  k_steps
  rename Fr g' _ _ _ => F1
  rename News g' _ _ _ => N1
  refine ⟨accept_key_in (c := c) (σ := σ) (ex := ex) (R := R) (sp := sp) (se := se) (by assumption) F1 (by assumption) N1 (by assumption) rfl ?_ ?_ D hse ?_ ?_⟩
  · show dp + 1 + 16 < _; omega
  · show un + 3 + 100 < _; omega
  · intro hb h2 tk2 σ' ex' F4 N4 fr D4
    try dsimp only
    have fr' : ∀ p ∈ ex', s.heap.get? p.1 = none := fun p hp => there_of G' F1 N1 (fun p hp => ⟨_, hp⟩) (fr p hp)
    k_steps
    rename Fr g' _ _ _ => F5
    rename News g' _ _ _ => N5
    obtain ⟨Fa, Na⟩ := back F N G' F5 N5
    exact yes hb _ _ σ' ex' Fa Na fr' D4
  · intro hb h2 tk2 F2 N2
    try dsimp only
    k_steps
    rename Fr g' _ _ _ => F3
    rename News g' _ _ _ => N3
    have k0 : ∀ b o, s.heap.get? b = some o → _ := fun b o e => keeps_of (M := []) G' S' F3 N3 (fun p hp _ => hp) b o e (by simp)
    refine ⟨fail_in (c := c) (σ := σ) (ex := ex) (by assumption) F3 (by assumption) N3 (by assumption) rfl ?_ ?_ ?_⟩
    · show dp + 1 + 10 < _; omega
    · show un + 3 + 100 < _; omega
    intro e d q u1 u2 u3 h3 tk3 R3 up
    rw [D.i] at R3
    exact fly_on B' R3 fun h4 R4 up4 => no hb e d q u1 u2 u3 h4 _ R4 (((Heap.UpToSlots.of_keeps fun b o z => k0 b o z).trans up).trans up4)
theorem expect_id_in {c : CA} {σ : CS} {R : List Tk} {ex : List (Addr × Obj)} {sp se : Nat}
    (B : Below A₀ base outer h₀) (F : Fr h₀ L s.heap m) (X : (hd.heap_1 w.params).In h₀) (N : News h₀ L s.heap (led c σ ex)) (T : Top p loose mean mg mb h₀) (hk : cs.kind = .function) (hd : dp + 20 < 600) (hu : un + 150 < 2000)
    (D : Rel R sp se c σ ex) (hse : se < 1000)
    (yes : (tokAt R sp).kd = "id" → ∀ vv h' tk' σ' ex', Fr h₀ L h' m → News h₀ L h' (led c σ' (ex ++ ex')) → (∀ p ∈ ex', s.heap.get? p.1 = none) → Rel R (sp + 1) (max se (sp + 1)) c σ' (ex ++ ex') → (tokAt R sp).val.Is vv → Q vv { s with heap := h', toks := tk' })
    (no : (tokAt R sp).kd ≠ "id" → ∀ e d q u1 u2 u3 h' tk', Fly base (envX cn cs L a ccd cl :: outer) e d ((d, errD q "unexpected_token" u1 (tokAt R sp).at' u2 "name" u3) :: led c σ ex) h' → s.heap.UpToSlots h' → E (.ref e) { s with heap := h', toks := tk' }) :
    wpAny (model PySem.Challenge.rw_sj0029_01.row.prog w) (ktrTop dp un gd cn cs L a ccd cl outer) (call (.ref 181) [.ref c.xc]) Q E s := by
  have hrl : 600 < recursionLimit := by decide
  have hcl : 2000 < cLine := by decide
  obtain ⟨y, dy, q', t1, vv, t3, hr, m1, m2, hv⟩ := D.tv
  have N1 := news_sub N (cons_in (in_led m1) (cons_in (in_led m2) (l := led c σ ex) (by first | ktd_sub | fail)))
  obtain ⟨xc, dc, la, xs, ds, lt, qs, qc, toks, n⟩ := c
  obtain ⟨hs, tv, i, ti, ah, na, pl, tp, b⟩ := σ
  have Di := D.i
  dsimp only [led] at hr N1 Di
  subst hr Di
  by_cases hkd : (tokAt R sp).kd = "id"
  · have hk0 : ((tokAt R sp).kd != "id") = false := by simpa using hkd
    refine wpAny_call ?_
    k_dflt cell_enter
    intro g' L' hh G' S' l' F' N' B' X' T'
    clear l'
    try dsimp only
    k_steps
    rename Fr g' _ _ _ => F3
    rename News g' _ _ _ => N3
    refine ⟨take_in (c := ⟨xc, dc, la, xs, ds, lt, qs, qc, toks, n⟩) (σ := ⟨hs, .ref y, (tokAt R sp).at', ti, ah, na, pl, tp, b⟩) (R := R) (sp := sp) (se := se) (ex := ex) (by assumption) F3 (by assumption) (news_sub N3 (by first | ktd_sub | fail)) (by assumption) rfl ?_ ?_ D hse ?_⟩
    · show dp + 1 + 12 < _; omega
    · show un + 3 + 80 < _; omega
    intro h2 tk2 σ' ex' F4 N4 fr D4
    try dsimp only
    have fr' : ∀ p ∈ ex', s.heap.get? p.1 = none := fun p hp => there_of G' F3 N3 (fun p hp => ⟨_, hp⟩) (fr p hp)
    have N5 := news_sub N4 (cons_in (in_led (List.mem_append_left ex' m1)) (cons_in (in_led (List.mem_append_left ex' m2)) (l := led ⟨xc, dc, la, xs, ds, lt, qs, qc, toks, n⟩ σ' (ex ++ ex')) (by first | ktd_sub | fail)))
    try dsimp only
    have hin : handedIn vv = true := handed_val hv
    k_steps
    rename Fr g' _ _ _ => F5
    rename News g' _ _ _ => N6
    obtain ⟨Fa, Na⟩ := back F N1 G' F5 (news_sub N6 (n' := led ⟨xc, dc, la, xs, ds, lt, qs, qc, toks, n⟩ σ' (ex ++ ex')) (by first | ktd_sub | fail))
    exact yes hkd vv _ _ σ' ex' Fa Na fr' D4 hv
  · have hk0 : ((tokAt R sp).kd != "id") = true := by simpa using hkd
    refine wpAny_call ?_
    k_dflt cell_enter
    intro g' L' hh G' S' l' F' N' B' X' T'
    clear l'
    try dsimp only
    k_steps
    rename Fr g' _ _ _ => F3
    rename News g' _ _ _ => N3
    have k0 : ∀ b o, s.heap.get? b = some o → _ := fun b o e => keeps_of (M := []) G' S' F3 N3 (fun p hp _ => hp) b o e (by simp)
    refine ⟨fail_in (c := ⟨xc, dc, la, xs, ds, lt, qs, qc, toks, n⟩) (σ := ⟨hs, .ref y, (tokAt R sp).at', ti, ah, na, pl, tp, b⟩) (ex := ex) (by assumption) F3 (by assumption) (news_sub N3 (by first | ktd_sub | fail)) (by assumption) rfl ?_ ?_ ?_⟩
    · show dp + 1 + 10 < _; omega
    · show un + 3 + 100 < _; omega
    intro e d q u1 u2 u3 h3 tk3 R3 up
    exact fly_on B' R3 fun h4 R4 up4 => no hkd e d q u1 u2 u3 h4 _ R4 (((Heap.UpToSlots.of_keeps fun b o z => k0 b o z).trans up).trans up4)
end
-- plain data within an answer
inductive Dt where
  | s (x : Str)
  | r (a : Addr)
  | i (n : Int)
def Dt.Is : Dt → Value → Prop
  | .s x, v => ∃ t, v = .str x t
  | .r a, v => v = .ref a
  | .i n, v => ∃ t, v = .int n t
def Vl.dt : Vl → Dt
  | .s x => .s x
  | .r a => .r a
theorem Vl.dt_is {v : Vl} {vv : Value} (h : v.Is vv) : v.dt.Is vv := by cases v <;> exact h
inductive Ans where
  | tup (a b c : Dt)
  | bool (b : Bool)
  | none
  | one (d : Dt)
abbrev tup3 (va vb vc : Value) : Obj := { cls := .type "tuple", data := .seq [va, vb, vc].toArray }
def AnsIs (news : List (Addr × Obj)) (r : Value) : Ans → Prop
  | .tup a b c => ∃ y va vb vc, r = .ref y ∧ (y, tup3 va vb vc) ∈ news ∧ a.Is va ∧ b.Is vb ∧ c.Is vc
  | .bool b => r = .bool b
  | .none => r = .none
  | .one d => d.Is r
def Tk.ans (t : Tk) : Ans := .tup (.s t.kd) t.val.dt (.i t.at')
def errAns (kd : Str) (i : Int) (det : Str) : Ans := .tup (.s kd) (.i i) (.s det)
theorem allLt_mem {z : Addr} {l : List (Addr × Obj)} (h : AllLt z l) : ∀ p ∈ l, p.1 < z := by
  induction l with
  | nil => intro p hp; cases hp
  | cons q r ih =>
    intro p hp
    cases hp with
    | head => exact h.1
    | tail _ m => exact ih h.2 p m
-- the cursor's places lie below z
def LedLt (c : CA) (ex : List (Addr × Obj)) (z : Nat) : Prop := c.xc < z ∧ c.dc < z ∧ c.la < z ∧ c.xs < z ∧ c.ds < z ∧ c.lt < z ∧ AllLt z ex
theorem ledLt_ne {c : CA} {σ : CS} {ex : List (Addr × Obj)} {z : Nat} (h : LedLt c ex z) : ∀ p ∈ led c σ ex, p.1 ≠ z := by
  obtain ⟨h1, h2, h3, h4, h5, h6, h7⟩ := h
  intro p hp
  simp only [led, List.mem_cons] at hp
  rcases hp with rfl | rfl | rfl | rfl | rfl | rfl | hp
  · exact Nat.ne_of_lt h1
  · exact Nat.ne_of_lt h2
  · exact Nat.ne_of_lt h3
  · exact Nat.ne_of_lt h4
  · exact Nat.ne_of_lt h5
  · exact Nat.ne_of_lt h6
  · exact Nat.ne_of_lt (allLt_mem h7 p hp)
theorem Rel.more {R : List Tk} {sp se : Nat} {c : CA} {σ : CS} {ex ex2 : List (Addr × Obj)} (D : Rel R sp se c σ ex) (s : ∀ p ∈ ex, p ∈ ex2) (A : Apart c ex2) : Rel R sp se c σ ex2 :=
  ⟨D.le, D.top, D.rl, D.ok, D.pl, D.hs, D.b, D.tv.mono s, D.i, D.len, fun j v q => (D.ah j v q).mono s, ⟨D.row.1, fun i v t a b => (D.row.2 i v t a b).mono s⟩, A⟩
theorem ledLt_left {c : CA} {ex ex' : List (Addr × Obj)} {z : Nat} (h : LedLt c (ex ++ ex') z) : LedLt c ex z := by
  obtain ⟨h1, h2, h3, h4, h5, h6, h7⟩ := h
  refine ⟨h1, h2, h3, h4, h5, h6, ?_⟩
  induction ex with
  | nil => trivial
  | cons p r ih => exact ⟨h7.1, ih h7.2⟩
-- a tuple is made last
theorem fin_tup {s g h6 h₀ : Heap} {L L' : Addr} {m m6 : Str → Option Value} {c : CA} {σ σ' : CS} {ex ex' rest : List (Addr × Obj)} {z : Nat} {o : Obj} {R : List Tk} {sp se : Nat}
    (F : Fr h₀ L s m) (N : News h₀ L s (led c σ ex)) (G : ∀ b o, s.get? b = some o → b ∉ (led c σ ex).map (·.1) → g.get? b = some o) (F6 : Fr g L' h6 m6) (N6 : News g L' h6 ((z, o) :: rest)) (hsub : ∀ p ∈ led c σ' (ex ++ ex'), p ∈ (z, o) :: rest)
    (l1 : LedLt c (ex ++ ex') z) (fr' : ∀ p ∈ ex', s.get? p.1 = none) (D : Rel R sp se c σ' (ex ++ ex')) :
    Fr h₀ L h6 m ∧ News h₀ L h6 (led c σ' (ex ++ (z, o) :: ex')) ∧ (∀ p ∈ (z, o) :: ex', s.get? p.1 = none) ∧ Rel R sp se c σ' (ex ++ (z, o) :: ex') := by
  have fz : s.get? z = none := fresh_of G N6 (.head _) (ledLt_ne (ledLt_left l1))
  have fr : ∀ p ∈ (z, o) :: ex', s.get? p.1 = none := fun p hp => (List.mem_cons.mp hp).elim (fun e => e ▸ fz) (fr' p)
  have hs : ∀ p ∈ led c σ' (ex ++ (z, o) :: ex'), p ∈ (z, o) :: rest := fun p hp => by
    simp only [led, List.mem_cons, List.mem_append] at hp
    by_cases hz : p = (z, o)
    · exact hz ▸ .head _
    · refine hsub p ?_
      simp only [led, List.mem_cons, List.mem_append]
      rcases hp with h | h | h | h | h | h | h | h | h <;> first | (simp only [h, true_or, or_true]; done) | exact absurd h hz
  obtain ⟨Fa, Na⟩ := back F N G F6 (news_sub N6 hs)
  refine ⟨Fa, Na, fr, D.more (fun p hp => ?_) ⟨D.apart.l, fun p hp => ?_, fun p hp => ?_, fun p hp => ?_⟩⟩
  · rcases List.mem_append.mp hp with hp | hp
    · exact List.mem_append_left _ hp
    · exact List.mem_append_right _ (.tail _ hp)
  all_goals
    rcases List.mem_append.mp hp with hp | hp
    · first | exact D.apart.a1 p (List.mem_append_left _ hp) | exact D.apart.a2 p (List.mem_append_left _ hp) | exact D.apart.a3 p (List.mem_append_left _ hp)
    rcases List.mem_cons.mp hp with rfl | hp
    · first | exact Nat.ne_of_gt l1.2.1 | exact Nat.ne_of_gt l1.2.2.2.2.1 | exact Nat.ne_of_gt l1.2.2.1
    · first | exact D.apart.a1 p (List.mem_append_right _ hp) | exact D.apart.a2 p (List.mem_append_right _ hp) | exact D.apart.a3 p (List.mem_append_right _ hp)
section
variable {w : World} {dp un : Nat} {gd : Option (List Code)} {cn : Str} {cs : Scope} {a : Addr} {ccd : Value} {cl : List (Str × Addr)} {outer : List Env} {A₀ : Around} {base h₀ : Heap} {L : Addr} {m : Str → Option Value} {s : Shared} {E : Value → Shared → Prop}
  {p : Program} {loose : List Str} {mean : ExcName → Option Value} {mg mb : Str → Option Value} {Q : Value → Shared → Prop}
theorem told_take {c : CA} {σ : CS} {R : List Tk} {ex : List (Addr × Obj)} {sp se : Nat} {x : Str} {nn : Int} {t1 t2 t3 : Tok}
    (B : Below A₀ base outer h₀) (F : Fr h₀ L s.heap m) (X : (hd.heap_1 w.params).In h₀) (N : News h₀ L s.heap (led c σ ex)) (T : Top p loose mean mg mb h₀) (hk : cs.kind = .function) (hd : dp + 24 < 600) (hu : un + 200 < 2000)
    (D : Rel R sp se c σ ex) (hse : se < 900)
    (ret : ∀ r h' tk' σ' ex', Fr h₀ L h' m → News h₀ L h' (led c σ' (ex ++ ex')) → (∀ p ∈ ex', s.heap.get? p.1 = none) → Rel R (sp + 1) (max se (sp + 1)) c σ' (ex ++ ex') → AnsIs (ex ++ ex') r (tokAt R sp).ans → Q r { s with heap := h', toks := tk' }) :
    wpAny (model PySem.Challenge.rw_sj0029_01.row.prog w) (ktrTop dp un gd cn cs L a ccd cl outer) (call (.ref 243) [.ref c.xc, .str "take" t1, .int nn t2, .str x t3]) Q E s := by
  have hrl : 600 < recursionLimit := by decide
  have hcl : 2000 < cLine := by decide
  refine wpAny_call ?_
  k_dflt cell_enter
  intro g' L' hh G' S' l' F' N' B' X' T'
  clear l'
  try dsimp only
  refine foldL F' ?_
  intro tk0 Ak mk F8
  k_fold
  k_steps
  rename Fr g' _ _ _ => F3
  rename News g' _ _ _ => N3
  refine ⟨take_in (c := c) (σ := σ) (R := R) (sp := sp) (se := se) (by assumption) F3 (by assumption) N3 (by assumption) rfl ?_ ?_ D (by omega) ?_⟩
  · show dp + 1 + 12 < _; omega
  · show un + 3 + 80 < _; omega
  intro h2 tk2 σ' ex' F4 N4 fr D4
  try dsimp only
  obtain ⟨y, dy, q', u1, vv, u3, hr, m1, m2, hv⟩ := D.tv
  rw [hr]
  have fr' : ∀ p ∈ ex', s.heap.get? p.1 = none := fun p hp => there_of G' F3 N3 (fun p hp => ⟨_, hp⟩) (fr p hp)
  have m1 := List.mem_append_left ex' m1
  have m2 := List.mem_append_left ex' m2
  have hin : handedIn vv = true := handed_val hv
  have N5 := news_sub N4 (cons_in (in_led m1) (cons_in (in_led m2) (l := led c σ' (ex ++ ex')) (by first | ktd_sub | fail)))
  k_steps
  rename Fr g' _ _ _ => F6
  rename News g' _ _ _ => N6
  rename @LT.lt Nat _ y _ ∧ _ => l1
  obtain ⟨Fa, Na, fr2, D5⟩ := fin_tup F N G' F6 N6 (by first | ktd_sub | fail) l1.2.2 fr' D4
  exact ret _ _ _ σ' _ Fa Na fr2 D5 ⟨_, _, _, _, rfl, List.mem_append_right _ (.head _), ⟨_, rfl⟩, Vl.dt_is hv, ⟨_, rfl⟩⟩
theorem told_peek {c : CA} {σ : CS} {R : List Tk} {ex : List (Addr × Obj)} {sp se : Nat} {x : Str} {nn : Nat} {t1 t2 t3 : Tok}
    (B : Below A₀ base outer h₀) (F : Fr h₀ L s.heap m) (X : (hd.heap_1 w.params).In h₀) (N : News h₀ L s.heap (led c σ ex)) (T : Top p loose mean mg mb h₀) (hk : cs.kind = .function) (hd : dp + 24 < 600) (hu : un + 200 < 2000)
    (D : Rel R sp se c σ ex) (hse : se < 900) (hn : 0 < nn) (hn3 : nn ≤ 3)
    (ret : ∀ r h' tk' σ' ex', Fr h₀ L h' m → News h₀ L h' (led c σ' (ex ++ ex')) → (∀ p ∈ ex', s.heap.get? p.1 = none) → Rel R sp (max se (sp + nn)) c σ' (ex ++ ex') → AnsIs (ex ++ ex') r (tokAt R (sp + nn)).ans → Q r { s with heap := h', toks := tk' }) :
    wpAny (model PySem.Challenge.rw_sj0029_01.row.prog w) (ktrTop dp un gd cn cs L a ccd cl outer) (call (.ref 243) [.ref c.xc, .str "peek" t1, .int nn t2, .str x t3]) Q E s := by
  have hrl : 600 < recursionLimit := by decide
  have hcl : 2000 < cLine := by decide
  refine wpAny_call ?_
  k_dflt cell_enter
  intro g' L' hh G' S' l' F' N' B' X' T'
  clear l'
  try dsimp only
  refine foldL F' ?_
  intro tk0 Ak mk F8
  k_fold
  k_steps
  rename Fr g' _ _ _ => F3
  rename News g' _ _ _ => N3
  refine ⟨peek_in (c := c) (σ := σ) (R := R) (sp := sp) (se := se) (nn := nn) (by assumption) F3 (by assumption) N3 (by assumption) rfl ?_ ?_ D (by omega) hn hn3 (by have := D.le; omega) ?_⟩
  · show dp + 1 + 12 < _; omega
  · show un + 3 + 80 < _; omega
  intro r2 h2 tk2 σ' ex' F4 N4 fr D4 tO
  try dsimp only
  obtain ⟨y, dy, q', u1, vv, u3, rfl, m1, m2, hv⟩ := tO
  have fr' : ∀ p ∈ ex', s.heap.get? p.1 = none := fun p hp => there_of G' F3 N3 (fun p hp => ⟨_, hp⟩) (fr p hp)
  have hin : handedIn vv = true := handed_val hv
  have N5 := news_sub N4 (cons_in (in_led m1) (cons_in (in_led m2) (l := led c σ' (ex ++ ex')) (by first | ktd_sub | fail)))
  k_steps
  rename Fr g' _ _ _ => F6
  rename News g' _ _ _ => N6
  rename @LT.lt Nat _ y _ ∧ _ => l1
  obtain ⟨Fa, Na, fr2, D5⟩ := fin_tup F N G' F6 N6 (by first | ktd_sub | fail) l1.2.2 fr' D4
  exact ret _ _ _ σ' _ Fa Na fr2 D5 ⟨_, _, _, _, rfl, List.mem_append_right _ (.head _), ⟨_, rfl⟩, Vl.dt_is hv, ⟨_, rfl⟩⟩
theorem told_is_op {c : CA} {σ : CS} {R : List Tk} {ex : List (Addr × Obj)} {sp se : Nat} {x : Str} {nn : Int} {t1 t2 t3 : Tok}
    (B : Below A₀ base outer h₀) (F : Fr h₀ L s.heap m) (X : (hd.heap_1 w.params).In h₀) (N : News h₀ L s.heap (led c σ ex)) (T : Top p loose mean mg mb h₀) (hk : cs.kind = .function) (hd : dp + 24 < 600) (hu : un + 200 < 2000)
    (D : Rel R sp se c σ ex) (hse : se < 900)
    (ret : ∀ r h' tk' σ' ex', Fr h₀ L h' m → News h₀ L h' (led c σ' (ex ++ ex')) → (∀ p ∈ ex', s.heap.get? p.1 = none) → Rel R sp se c σ' (ex ++ ex') → AnsIs (ex ++ ex') r (.bool (isTk "op" (tokAt R sp) x)) → Q r { s with heap := h', toks := tk' }) :
    wpAny (model PySem.Challenge.rw_sj0029_01.row.prog w) (ktrTop dp un gd cn cs L a ccd cl outer) (call (.ref 243) [.ref c.xc, .str "is_op" t1, .int nn t2, .str x t3]) Q E s := by
  have hrl : 600 < recursionLimit := by decide
  have hcl : 2000 < cLine := by decide
  refine wpAny_call ?_
  k_dflt cell_enter
  intro g' L' hh G' S' l' F' N' B' X' T'
  clear l'
  try dsimp only
  refine foldL F' ?_
  intro tk0 Ak mk F8
  k_fold
  k_steps
  rename Fr g' _ _ _ => F3
  rename News g' _ _ _ => N3
  refine ⟨is_op_in (c := c) (σ := σ) (ex := ex) (t := tokAt R sp) (by assumption) F3 (by assumption) N3 (by assumption) rfl ?_ ?_ D.tv (tokAt_ok D.ok _) ?_⟩
  · show dp + 1 + 4 < _; omega
  · show un + 3 + 20 < _; omega
  intro h2 tk2 F4 N4
  try dsimp only
  k_steps
  rename Fr g' _ _ _ => F6
  rename News g' _ _ _ => N6
  obtain ⟨Fa, Na⟩ := back F N G' F6 N6
  exact ret _ _ _ σ [] Fa (by rw [List.append_nil]; exact Na) (fun _ h => nomatch h) (by rw [List.append_nil]; exact D) rfl
theorem told_is_key {c : CA} {σ : CS} {R : List Tk} {ex : List (Addr × Obj)} {sp se : Nat} {x : Str} {nn : Int} {t1 t2 t3 : Tok}
    (B : Below A₀ base outer h₀) (F : Fr h₀ L s.heap m) (X : (hd.heap_1 w.params).In h₀) (N : News h₀ L s.heap (led c σ ex)) (T : Top p loose mean mg mb h₀) (hk : cs.kind = .function) (hd : dp + 24 < 600) (hu : un + 200 < 2000)
    (D : Rel R sp se c σ ex) (hse : se < 900)
    (ret : ∀ r h' tk' σ' ex', Fr h₀ L h' m → News h₀ L h' (led c σ' (ex ++ ex')) → (∀ p ∈ ex', s.heap.get? p.1 = none) → Rel R sp se c σ' (ex ++ ex') → AnsIs (ex ++ ex') r (.bool (isTk "key" (tokAt R sp) x)) → Q r { s with heap := h', toks := tk' }) :
    wpAny (model PySem.Challenge.rw_sj0029_01.row.prog w) (ktrTop dp un gd cn cs L a ccd cl outer) (call (.ref 243) [.ref c.xc, .str "is_key" t1, .int nn t2, .str x t3]) Q E s := by
  have hrl : 600 < recursionLimit := by decide
  have hcl : 2000 < cLine := by decide
  refine wpAny_call ?_
  k_dflt cell_enter
  intro g' L' hh G' S' l' F' N' B' X' T'
  clear l'
  try dsimp only
  refine foldL F' ?_
  intro tk0 Ak mk F8
  k_fold
  k_steps
  rename Fr g' _ _ _ => F3
  rename News g' _ _ _ => N3
  refine ⟨is_key_in (c := c) (σ := σ) (ex := ex) (t := tokAt R sp) (by assumption) F3 (by assumption) N3 (by assumption) rfl ?_ ?_ D.tv (tokAt_ok D.ok _) ?_⟩
  · show dp + 1 + 4 < _; omega
  · show un + 3 + 20 < _; omega
  intro h2 tk2 F4 N4
  try dsimp only
  k_steps
  rename Fr g' _ _ _ => F6
  rename News g' _ _ _ => N6
  obtain ⟨Fa, Na⟩ := back F N G' F6 N6
  exact ret _ _ _ σ [] Fa (by rw [List.append_nil]; exact Na) (fun _ h => nomatch h) (by rw [List.append_nil]; exact D) rfl
theorem told_accept_op {c : CA} {σ : CS} {R : List Tk} {ex : List (Addr × Obj)} {sp se : Nat} {x : Str} {nn : Int} {t1 t2 t3 : Tok}
    (B : Below A₀ base outer h₀) (F : Fr h₀ L s.heap m) (X : (hd.heap_1 w.params).In h₀) (N : News h₀ L s.heap (led c σ ex)) (T : Top p loose mean mg mb h₀) (hk : cs.kind = .function) (hd : dp + 24 < 600) (hu : un + 200 < 2000)
    (D : Rel R sp se c σ ex) (hse : se < 900)
    (ret : ∀ r h' tk' σ' ex', Fr h₀ L h' m → News h₀ L h' (led c σ' (ex ++ ex')) → (∀ p ∈ ex', s.heap.get? p.1 = none) → Rel R (if isTk "op" (tokAt R sp) x then sp + 1 else sp) (if isTk "op" (tokAt R sp) x then max se (sp + 1) else se) c σ' (ex ++ ex') → AnsIs (ex ++ ex') r (.bool (isTk "op" (tokAt R sp) x)) → Q r { s with heap := h', toks := tk' }) :
    wpAny (model PySem.Challenge.rw_sj0029_01.row.prog w) (ktrTop dp un gd cn cs L a ccd cl outer) (call (.ref 243) [.ref c.xc, .str "accept_op" t1, .int nn t2, .str x t3]) Q E s := by
  have hrl : 600 < recursionLimit := by decide
  have hcl : 2000 < cLine := by decide
  refine wpAny_call ?_
  k_dflt cell_enter
  intro g' L' hh G' S' l' F' N' B' X' T'
  clear l'
  try dsimp only
  refine foldL F' ?_
  intro tk0 Ak mk F8
  k_fold
  k_steps
  rename Fr g' _ _ _ => F3
  rename News g' _ _ _ => N3
  refine ⟨accept_op_in (c := c) (σ := σ) (ex := ex) (R := R) (sp := sp) (se := se) (by assumption) F3 (by assumption) N3 (by assumption) rfl ?_ ?_ D (by omega) ?_ ?_⟩
  · show dp + 1 + 16 < _; omega
  · show un + 3 + 100 < _; omega
  · intro hb h2 tk2 σ' ex' F4 N4 fr D4
    try dsimp only
    have fr' : ∀ p ∈ ex', s.heap.get? p.1 = none := fun p hp => there_of G' F3 N3 (fun p hp => ⟨_, hp⟩) (fr p hp)
    k_steps
    rename Fr g' _ _ _ => F5
    rename News g' _ _ _ => N5
    obtain ⟨Fa, Na⟩ := back F N G' F5 N5
    exact ret _ _ _ σ' ex' Fa Na fr' (by rw [hb]; exact D4) (by rw [hb]; rfl)
  · intro hb h2 tk2 F4 N4
    try dsimp only
    k_steps
    rename Fr g' _ _ _ => F6
    rename News g' _ _ _ => N6
    obtain ⟨Fa, Na⟩ := back F N G' F6 N6
    exact ret _ _ _ σ [] Fa (by rw [List.append_nil]; exact Na) (fun _ h => nomatch h) (by rw [List.append_nil, hb]; exact D) (by rw [hb]; rfl)
theorem told_accept_key {c : CA} {σ : CS} {R : List Tk} {ex : List (Addr × Obj)} {sp se : Nat} {x : Str} {nn : Int} {t1 t2 t3 : Tok}
    (B : Below A₀ base outer h₀) (F : Fr h₀ L s.heap m) (X : (hd.heap_1 w.params).In h₀) (N : News h₀ L s.heap (led c σ ex)) (T : Top p loose mean mg mb h₀) (hk : cs.kind = .function) (hd : dp + 24 < 600) (hu : un + 200 < 2000)
    (D : Rel R sp se c σ ex) (hse : se < 900)
    (ret : ∀ r h' tk' σ' ex', Fr h₀ L h' m → News h₀ L h' (led c σ' (ex ++ ex')) → (∀ p ∈ ex', s.heap.get? p.1 = none) → Rel R (if isTk "key" (tokAt R sp) x then sp + 1 else sp) (if isTk "key" (tokAt R sp) x then max se (sp + 1) else se) c σ' (ex ++ ex') → AnsIs (ex ++ ex') r (.bool (isTk "key" (tokAt R sp) x)) → Q r { s with heap := h', toks := tk' }) :
    wpAny (model PySem.Challenge.rw_sj0029_01.row.prog w) (ktrTop dp un gd cn cs L a ccd cl outer) (call (.ref 243) [.ref c.xc, .str "accept_key" t1, .int nn t2, .str x t3]) Q E s := by
  have hrl : 600 < recursionLimit := by decide
  have hcl : 2000 < cLine := by decide
  refine wpAny_call ?_
  k_dflt cell_enter
  intro g' L' hh G' S' l' F' N' B' X' T'
  clear l'
  try dsimp only
  refine foldL F' ?_
  intro tk0 Ak mk F8
  k_fold
  k_steps
  rename Fr g' _ _ _ => F3
  rename News g' _ _ _ => N3
  refine ⟨accept_key_in (c := c) (σ := σ) (ex := ex) (R := R) (sp := sp) (se := se) (by assumption) F3 (by assumption) N3 (by assumption) rfl ?_ ?_ D (by omega) ?_ ?_⟩
  · show dp + 1 + 16 < _; omega
  · show un + 3 + 100 < _; omega
  · intro hb h2 tk2 σ' ex' F4 N4 fr D4
    try dsimp only
    have fr' : ∀ p ∈ ex', s.heap.get? p.1 = none := fun p hp => there_of G' F3 N3 (fun p hp => ⟨_, hp⟩) (fr p hp)
    k_steps
    rename Fr g' _ _ _ => F5
    rename News g' _ _ _ => N5
    obtain ⟨Fa, Na⟩ := back F N G' F5 N5
    exact ret _ _ _ σ' ex' Fa Na fr' (by rw [hb]; exact D4) (by rw [hb]; rfl)
  · intro hb h2 tk2 F4 N4
    try dsimp only
    k_steps
    rename Fr g' _ _ _ => F6
    rename News g' _ _ _ => N6
    obtain ⟨Fa, Na⟩ := back F N G' F6 N6
    exact ret _ _ _ σ [] Fa (by rw [List.append_nil]; exact Na) (fun _ h => nomatch h) (by rw [List.append_nil, hb]; exact D) (by rw [hb]; rfl)
end
-- behind a caught exception's suite: its name goes
def SuiteEnd (base : Heap) (Lt : Addr) (s' : Shared) (Q : Flow → Shared → Prop) (f : Flow) (s₄ : Shared) : Prop :=
  ∃ h4 tk4 m4 news4, s₄ = { s' with heap := h4, toks := tk4 } ∧ Fr base Lt h4 m4 ∧ News base Lt h4 news4 ∧ ∀ h5 tk5, News base Lt h5 news4 → (∀ b o, base.get? b = some o → h5.get? b = some o) → Q f { s' with heap := h5, toks := tk5 }
section
variable {prog : Program} {w : World} {A : Around} {E : Value → Shared → Prop} {s' : Shared} {base : Heap} {outer : List Env} {L Lt a e d : Addr} {m mt mg mb : Str → Option Value} {name : Str} {scope : Scope} {cd : Value} {p : Program} {loose : List Str}
  {b₀ : Stmt} {suite : List Stmt} {pos np : Pos} {rest : List ExceptHandler} {Q : Flow → Shared → Prop} {news : List (Addr × Obj)}
theorem caught_own (hfr : A.frames = some (envOf name scope Lt a cd :: outer)) (R : Fly base (envOf name scope Lt a cd :: outer) e d news s'.heap)
    (nt : s'.heap.Ns Lt mt) (ab : base.objs.size ≤ Lt) (nl : s'.heap.Ns L m) (neL : L ≠ Lt) (bL : base.get? L = none) (nn : ∀ q ∈ news, q.1 ≠ Lt)
    (X : (hd.heap_1 w.params).In base) (T : TopRead p loose mg mb base) (hi : nsIn (hd.heap_1 w.params) mainGlobals "SourceError" = some (some (.ref 45)))
    (hk : scope.kind = .function) (hlo : (envOf name scope Lt a cd).kindOf "error" = some .local) (hx : (envOf name scope Lt a cd).kindOf "SourceError" = some .globalImplicit)
    (k : ∀ h' tk oe oL, Fr base Lt h' (fun y => if y = "error" then some (.ref e) else mt y) → News base Lt h' ((e, oe) :: (L, oL) :: news) → oe.cls = .ref 45 → oe.dict = some d → notCls oe = true → (∀ h2 : Heap, h2.get? L = some oL → h2.Ns L m) →
      wpAny (model prog w) (A.mark (some (.ref e))) (execs (b₀ :: suite) (envOf name scope Lt a cd)) (SuiteEnd base Lt s' Q)
        (AsSuiteRaised (model prog w) (A.mark (some (.ref e))) (envOf name scope Lt a cd) "error" pos (notedBy (model prog w) (A.mark (some (.ref e))) (envOf name scope Lt a cd) (cameBackBy (model prog w) A (envOf name scope Lt a cd) E)))
        { s' with heap := h', toks := tk }) :
    wpAny (model prog w) A (noteFrame (.ref e) (envOf name scope Lt a cd))
      (fun _ s₂ => wpAny (model prog w) A (setFlight (.ref e) none) (fun _ s₃ =>
        wpAny (model prog w) A (handleBy (.ref e) (envOf name scope Lt a cd) (.ExceptHandler (some (.Name "SourceError" np)) (some "error") (b₀ :: suite) pos :: rest)) Q E s₃) E s₂) E s' := by
  obtain ⟨B, a0, hB, hl, hfl, hh⟩ := R
  have run1 := (tm_note (.ref e) (envOf name scope Lt a cd)).any (M := model prog w) (A := A) (E := E) hh (Q := fun _ s₂ => ∃ h₄, s₂ = { s' with heap := h₄ } ∧ Heap.HeldW B (envOf name scope Lt a cd :: outer) e (.ref 45) a0 Lt h₄ ∧ s'.heap.UpToSlots h₄)
    (wpAny_looks_onW hfr rfl hfl fun h₄ x y => ⟨h₄, rfl, x, y⟩)
  refine wpAny_mono run1 (fun _ s₂ z => ?_) fun _ _ z => z.1
  obtain ⟨⟨h₄, rfl, held₄, up₄⟩, hh₄⟩ := z
  have run2 := (tm_setFlight (.ref e) none).any (M := model prog w) (A := A) (E := E) hh₄ (Q := fun _ s₃ => ∃ h₅, s₃ = { s' with heap := h₅ } ∧ Heap.FlyingW B (envOf name scope Lt a cd :: outer) e (.ref 45) a0 h₅ ∧ h₄.UpToSlots h₅)
    (wpAny_landsW held₄ fun h₅ x y => ⟨h₅, rfl, x, y⟩)
  refine wpAny_mono run2 (fun _ s₃ z => ?_) fun _ _ z => z.1
  obtain ⟨⟨h₅, rfl, fl₅, up₅⟩, hh₅⟩ := z
  have F₅ : Fr base Lt h₅ mt := ⟨(up₄.trans up₅).ns nt, fun b o q => fl₅.1 b o (hB b o q), ab⟩
  obtain ⟨ob, hob, hobc⟩ := fl₅.there
  refine wpAny_handleBy_cons (codeAny_handlers_test (name_K F₅ X T hi ?_ hk hx)) (by intro q; cases q)
  have hC : ∃ nm q N bs hdct sn sub ab col dd k0 k1 k2 k3 k5, h₅.get? 45 = some (excClassObj nm q 45 N bs [.ref 32, .type "Exception", .type "BaseException", .type "object"] hdct sn sub ab col dd k0 k1 k2 k3 k5 "Exception.__new__") :=
    ⟨_, _, _, _, _, _, _, _, _, _, _, _, _, _, _, (X.keeps F₅.keep) 45 _ (by k_is)⟩
  obtain ⟨nm, q, N, bs, hdct, sn, sub, abs, col, dd, k0, k1, k2, k3, k5, hC⟩ := hC
  refine wpAny_excMatches_sub_self hC hob hobc (by decide) (codeAny_handlers_suite_as ?_)
  have run3 := (tm_setFlight (.ref e) none).any (M := model prog w) (A := A.mark (some (.ref e))) (E := notedBy (model prog w) (A.mark (some (.ref e))) (envOf name scope Lt a cd) (cameBackBy (model prog w) A (envOf name scope Lt a cd) E)) (s := { s' with heap := h₅ }) hh₅ (Q := fun _ s₃ => ∃ h₆, s₃ = { s' with heap := h₆ } ∧ Heap.FlyingW B (envOf name scope Lt a cd :: outer) e (.ref 45) a0 h₆ ∧ h₅.UpToSlots h₆)
    (lands_againW fl₅ fun h₆ x y => ⟨h₆, rfl, x, y⟩)
  refine wpAny_mono run3 (fun _ s₃ z => ?_) fun _ _ z => z.1
  obtain ⟨⟨h₆, rfl, fl₆, up₆⟩, hh₆⟩ := z
  have up := (up₄.trans up₅).trans up₆
  have F₆ : Fr base Lt h₆ mt := ⟨up.ns nt, fun b o q => fl₆.1 b o (hB b o q), ab⟩
  obtain ⟨oe, vs, hoe, hoec, hoed, hoe0⟩ := fl₆.first
  have hdict : oe.dict = some d := by
    obtain ⟨o2, h2, h3⟩ := hh₆
    dsimp only at h2
    rw [hoe] at h2; cases h2; exact h3
  obtain ⟨oL, es, ep, hL, hLd, hLr⟩ := up.ns nl
  obtain ⟨oT, _, _, hT, hTd, _⟩ := F₆.ns
  have N₆ : News base Lt h₆ ((e, oe) :: (L, oL) :: news) := fun q hq => by
    rcases List.mem_cons.mp hq with rfl | hq
    · refine ⟨hoe, fun z => ?_, fresh_of_stays hB fl₆.2.1⟩
      dsimp only at z
      rw [z, hT] at hoe
      cases hoe
      rw [hTd] at hoed
      cases hoed
    · rcases List.mem_cons.mp hq with rfl | hq
      · exact ⟨hL, neL, bL⟩
      · exact ⟨fl₆.1 _ _ (hl q hq).1, nn q hq, (hl q hq).2⟩
  refine stN F₆ N₆ (fun h₇ F₇ N₇ => ?_) hk hlo
  refine wpAny_mono (k h₇ _ oe oL F₇ N₇ hoec hdict (by unfold notCls; rw [hoed]) fun h2 q => ⟨oL, es, ep, q, hLd, hLr⟩) (fun f s₄ z => ?_) fun _ _ z => z
  obtain ⟨h4, tk4, m4, news4, rfl, F4, N4, fin⟩ := z
  refine wpAny_nameGoes hlo F4.ns (by show (scope.kind == .class || (scope.kind == .module && _)) = false; rw [hk]; rfl) fun h5 m5 ns5 sb5 => ?_
  have F5 := F4.set ns5 sb5
  exact fin h5 _ (N4.set sb5) F5.keep
end
section
variable {prog : Program} {w : World} {A : Around} {E : Value → Shared → Prop} {h : Heap} {g : Array GenState} {dr : Drawn} {t : Nat} {os : OsState} {e : Addr} {oe od : Obj} {name : Str} {v : Value} {Q : Value → Shared → Prop} {expr : Bool}
-- an attribute of the exception's own dict
theorem exc_attr (X : (hd.heap_1 w.params).In h) (I : InstAt h e oe 45 (some od)) (hf : findObj (hd.heap_1 w.params) 45 (some od) name = some (.value v)) (hh : handedIn v = true) (hq : ∀ t', Q v ⟨h, g, dr, t', os⟩) :
    wpAny (model prog w) A (getAttr (.ref e) name expr) Q E ⟨h, g, dr, t, os⟩ := by
  have hga : findIn (hd.heap_1 w.params) (.ref 45) "__getattribute__" = some (some (.builtin "BaseException.__getattribute__")) := by k_is
  have hgn : findIn (hd.heap_1 w.params) (.ref 45) "__getattr__" = some none := by k_is
  have hbe : mroIn (hd.heap_1 w.params) 45 (.type "BaseException") = some true := by k_is
  have L1 := looks_findIn (M := model prog w) X hga
  have L2 := looks_findIn (M := model prog w) X hgn
  have L3 := looks_mroIn (M := model prog w) X hbe
  have L4 := looks_find (M := model prog w) X I hf
  have L5 := I.type (M := model prog w)
  have S := PySem.F.attr_Exception.ga
  unfold getAttr getAttrBy
  refine wpAny_bind (wpAny_mkText (wpAny_holding (wpAny_bind (L5.at (wpAny_bind (L1.at ?_))))))
  dsimp only
  rw [if_neg (by decide)]
  unfold getAttrByItsOwn hookBefore
  refine wpAny_bind ?_
  rw [if_pos (show onTheHeap (Value.ref 45) = true from rfl)]
  refine L2.at (wpAny_bind (wpAny_attempt (wpAny_holding ?_)))
  unfold callGetattribute
  rw [if_neg (by cases expr <;> decide)]
  unfold boundAndCalled
  refine wpAny_bind (wpAny_of_eq (S.bind (.ref e)) (wpAny_call ?_))
  have hk : builtinKind "BaseException.__getattribute__" = some .slot := by decide +kernel
  have hsplit : splitId "BaseException.__getattribute__" = some ("BaseException", "__getattribute__") := by decide +kernel
  have ha := PySem.F.args_bexc_ga (.ref e) (.str name t)
  refine codeAny_call_builtin S.plain PySem.F.entry_bexc_ga ?_
  have hcheck : ∀ {A' : Around} {E' : Value → Shared → Prop} {Q' : Unit → Shared → Prop} {t' : Nat}, Q' () ⟨h, g, dr, t', os⟩ → wpAny (model prog w) A' (checkBuiltinCall "BaseException.__getattribute__" ⟨[.ref e, .str name t], []⟩) Q' E' ⟨h, g, dr, t', os⟩ := by
    intro A' E' Q' t' hq'
    simp only [checkBuiltinCall, hk, hsplit]
    refine wpAny_bind ?_
    unfold isInstance
    repeat (first | with_reducible refine L5.at ?_ | with_reducible refine L3.at ?_ | wp_step)
    exact hq'
  refine hcheck ?_
  unfold Builtin.«object.__getattribute__»
  repeat (first | with_reducible refine L5.at ?_ | with_reducible refine L4.at ?_ | wp_step)
  show wpAny _ _ (handedOut v) _ _ _
  rw [handedOut_of hh]
  exact wpAny_pure (hq _)
end
-- nothing of l is in l'
def Far (l l' : List (Addr × Obj)) : Prop := ∀ p ∈ l, ∀ q ∈ l', p.1 ≠ q.1
theorem far_of {h₀ h : Heap} {L : Addr} {l l' : List (Addr × Obj)} (N : News h₀ L h l') (fr : ∀ p ∈ l, h.get? p.1 = none) : Far l l' := fun p hp q hq e => by
  have := (N q hq).1
  rw [← e, fr p hp] at this
  cases this
theorem caught_end {s h₀ h7 : Heap} {L L' e d : Addr} {m : Str → Option Value} {c : CA} {σ : CS} {ex : List (Addr × Obj)} {z : Nat} {o oe oL od : Obj} {R : List Tk} {sp se : Nat}
    (F : Fr h₀ L s m) (N : News h₀ L s (led c σ ex)) (N7 : News h₀ L' h7 ((z, o) :: (e, oe) :: (L, oL) :: (d, od) :: led c σ ex)) (k7 : ∀ b o, h₀.get? b = some o → h7.get? b = some o)
    (eL : ∀ h2 : Heap, h2.get? L = some oL → h2.Ns L m) (l1 : L < z) (l2 : LedLt c ex z) (D : Rel R sp se c σ ex) :
    Fr h₀ L h7 m ∧ News h₀ L h7 (led c σ (ex ++ [(z, o)])) ∧ Far [(z, o)] (led c σ ex) ∧ Rel R sp se c σ (ex ++ [(z, o)]) := by
  have hz := N7 _ (.head _)
  have hf : Far [(z, o)] (led c σ ex) := fun p hp q hq => by
    cases List.mem_singleton.mp hp
    exact (ledLt_ne l2 q hq).symm
  refine ⟨⟨eL _ (N7 _ (.tail _ (.tail _ (.head _)))).1, k7, F.above⟩, fun p hp => ?_, hf, D.more (fun p hp => List.mem_append_left _ hp) ⟨D.apart.l, fun p hp => ?_, fun p hp => ?_, fun p hp => ?_⟩⟩
  · have : p ∈ led c σ ex ∨ p = (z, o) := by
      simp only [led, List.mem_cons, List.mem_append, List.not_mem_nil, or_false] at hp ⊢
      rcases hp with h | h | h | h | h | h | h | h <;> simp only [h, true_or, or_true]
    rcases this with h | rfl
    · exact ⟨(N7 p (.tail _ (.tail _ (.tail _ (.tail _ h))))).1, (N p h).2⟩
    · exact ⟨hz.1, Nat.ne_of_gt l1, hz.2.2⟩
  all_goals
    rcases List.mem_append.mp hp with hp | hp
    · first | exact D.apart.a1 p hp | exact D.apart.a2 p hp | exact D.apart.a3 p hp
    cases List.mem_singleton.mp hp
    first | exact Nat.ne_of_gt l2.2.1 | exact Nat.ne_of_gt l2.2.2.2.2.1 | exact Nat.ne_of_gt l2.2.2.1
section
variable {w : World} {dp un : Nat} {gd : Option (List Code)} {cn : Str} {cs : Scope} {a : Addr} {ccd : Value} {cl : List (Str × Addr)} {outer : List Env} {A₀ : Around} {base h₀ : Heap} {L : Addr} {m : Str → Option Value} {s : Shared} {E : Value → Shared → Prop}
  {p : Program} {loose : List Str} {mean : ExcName → Option Value} {mg mb : Str → Option Value} {Q : Value → Shared → Prop}
local macro_rules | `(tactic| walk_at "getAttr ref") => `(tactic| (k_here; k_dflt (refine' exc_attr ?k1 ?k2 ?k3 ?k4 ?_; (case k1 | k2 => k_asm); (case k3 => (first | rfl | k_get)); (case k4 => (first | rfl | assumption))); intro t'))
theorem told_expect_op {c : CA} {σ : CS} {R : List Tk} {ex : List (Addr × Obj)} {sp se : Nat} {x : Str} {nn : Int} {t1 t2 t3 : Tok}
    (B : Below A₀ h₀ [] h₀) (F : Fr h₀ L s.heap m) (X : (hd.heap_1 w.params).In h₀) (N : News h₀ L s.heap (led c σ ex)) (T : Top p loose mean mg mb h₀) (hk : cs.kind = .function) (hd : dp + 24 < 600) (hu : un + 200 < 2000)
    (D : Rel R sp se c σ ex) (hse : se < 900)
    (ret : ∀ r h' tk' σ' ex', Fr h₀ L h' m → News h₀ L h' (led c σ' (ex ++ ex')) → Far ex' (led c σ ex) → Rel R (if isTk "op" (tokAt R sp) x then sp + 1 else sp) (if isTk "op" (tokAt R sp) x then max se (sp + 1) else se) c σ' (ex ++ ex') →
      AnsIs (ex ++ ex') r (if isTk "op" (tokAt R sp) x then .none else errAns "unexpected_token" (tokAt R sp).at' x) → Q r { s with heap := h', toks := tk' }) :
    wpAny (model PySem.Challenge.rw_sj0029_01.row.prog w) (ktrTop dp un gd cn cs L a ccd cl []) (call (.ref 243) [.ref c.xc, .str "expect_op" t1, .int nn t2, .str x t3]) Q E s := by
  have hrl : 600 < recursionLimit := by decide
  have hcl : 2000 < cLine := by decide
  refine wpAny_call ?_
  k_dflt cell_enter
  intro g' L' hh G' S' l' F' N' B' X' T'
  clear l'
  try dsimp only
  k_steps
  rename Fr g' _ _ _ => F3
  rename News g' _ _ _ => N3
  refine ⟨expect_op_in (c := c) (σ := σ) (ex := ex) (R := R) (sp := sp) (se := se) (by assumption) F3 (by assumption) N3 (by assumption) rfl ?_ ?_ D (by omega) ?_ ?_⟩
  · show dp + 1 + 20 < _; omega
  · show un + 3 + 150 < _; omega
  · intro hb h2 tk2 σ' ex' F4 N4 fr D4
    try dsimp only
    have fr' : ∀ p ∈ ex', s.heap.get? p.1 = none := fun p hp => there_of G' F3 N3 (fun p hp => ⟨_, hp⟩) (fr p hp)
    k_steps
    rename Fr g' _ _ _ => F5
    rename News g' _ _ _ => N5
    obtain ⟨Fa, Na⟩ := back F N G' F5 N5
    exact ret _ _ _ σ' ex' Fa Na (far_of N fr') (by rw [hb]; exact D4) (by rw [hb]; rfl)
  · intro hb e d q u1 u2 u3 h3 tk3 R3 up
    have k0 : ∀ b o, s.heap.get? b = some o → _ = some o := fun b o e => keeps_of (M := []) G' S' F3 N3 (fun p hp _ => hp) b o e (by simp)
    have hLL : L < L' := by
      obtain ⟨oL, _, _, hL, _⟩ := F.ns
      refine Nat.lt_of_lt_of_le (Heap.lt_size (G' L oL hL fun q => ?_)) F3.above
      obtain ⟨p, hp, e⟩ := List.mem_map.mp q
      exact (N p hp).2.1 e
    have hnn : ∀ q' ∈ (d, errD q "unexpected_token" u1 (tokAt R sp).at' u2 x u3) :: led c σ ex, q'.1 ≠ L' := fun q' hq' => by
      rcases List.mem_cons.mp hq' with rfl | hq'
      · intro ed
        obtain ⟨B0, a0, _, hl, hfl, _⟩ := R3
        have z := hfl.1 _ _ (hl _ (.head _)).1
        obtain ⟨oT, _, _, hT, hTd, _, hTm⟩ := up.ns F3.ns
        dsimp only at ed z
        subst ed
        rw [hT] at z
        cases z
        cases hTd
        cases hTm "sort"
      · exact (N3 _ hq').2.1
    have hbL : h₀.get? L = none := Heap.get?_none_of_le F.above
    refine caught_own (L := L) (m := m) (base := h₀) (outer := [envX cn cs L a ccd cl]) (mt := _) rfl R3 (up.ns F3.ns) (Nat.le_trans F.above (Nat.le_of_lt hLL)) ((((Heap.UpToSlots.of_keeps k0)).trans up).ns F.ns) (Nat.ne_of_lt hLL) hbL hnn X (topRead_of T) (by k_is) rfl rfl rfl ?_
    clear hLL hnn k0
    intro h5 tk5 oe oL F5 N5 ec ed en eL
    try dsimp only
    dsimp only [led] at N5
    have I5 : InstAt h5 e oe 45 (some (errD q "unexpected_token" u1 (tokAt R sp).at' u2 x u3)) := ⟨(N5 _ (.head _)).1, ec, en, by rw [ed]; exact (N5 _ (.tail _ (.tail _ (.head _)))).1⟩
    have X5 := X.keeps F5.keep
    k_steps
    rename Fr h₀ _ _ _ => F6
    rename News h₀ _ _ _ => N6
    rename @LT.lt Nat _ e _ ∧ _ => l1
    refine ⟨_, _, _, _, rfl, F6, N6, fun h7 tk7 N7 k7 => ?_⟩
    obtain ⟨Fa, Na, far, D'⟩ := caught_end F N N7 k7 eL l1.2.1 l1.2.2.2 D
    exact ret _ _ _ σ _ Fa Na far (by rw [hb]; exact D') (by rw [hb]; exact ⟨_, _, _, _, rfl, List.mem_append_right _ (.head _), ⟨_, rfl⟩, ⟨_, rfl⟩, ⟨_, rfl⟩⟩)
theorem told_expect_key {c : CA} {σ : CS} {R : List Tk} {ex : List (Addr × Obj)} {sp se : Nat} {x : Str} {nn : Int} {t1 t2 t3 : Tok}
    (B : Below A₀ h₀ [] h₀) (F : Fr h₀ L s.heap m) (X : (hd.heap_1 w.params).In h₀) (N : News h₀ L s.heap (led c σ ex)) (T : Top p loose mean mg mb h₀) (hk : cs.kind = .function) (hd : dp + 24 < 600) (hu : un + 200 < 2000)
    (D : Rel R sp se c σ ex) (hse : se < 900)
    (ret : ∀ r h' tk' σ' ex', Fr h₀ L h' m → News h₀ L h' (led c σ' (ex ++ ex')) → Far ex' (led c σ ex) → Rel R (if isTk "key" (tokAt R sp) x then sp + 1 else sp) (if isTk "key" (tokAt R sp) x then max se (sp + 1) else se) c σ' (ex ++ ex') →
      AnsIs (ex ++ ex') r (if isTk "key" (tokAt R sp) x then .none else errAns "unexpected_token" (tokAt R sp).at' x) → Q r { s with heap := h', toks := tk' }) :
    wpAny (model PySem.Challenge.rw_sj0029_01.row.prog w) (ktrTop dp un gd cn cs L a ccd cl []) (call (.ref 243) [.ref c.xc, .str "expect_key" t1, .int nn t2, .str x t3]) Q E s := by
  have hrl : 600 < recursionLimit := by decide
  have hcl : 2000 < cLine := by decide
  refine wpAny_call ?_
  k_dflt cell_enter
  intro g' L' hh G' S' l' F' N' B' X' T'
  clear l'
  try dsimp only
  k_steps
  rename Fr g' _ _ _ => F3
  rename News g' _ _ _ => N3
  refine ⟨expect_key_in (c := c) (σ := σ) (ex := ex) (R := R) (sp := sp) (se := se) (by assumption) F3 (by assumption) N3 (by assumption) rfl ?_ ?_ D (by omega) ?_ ?_⟩
  · show dp + 1 + 20 < _; omega
  · show un + 3 + 150 < _; omega
  · intro hb h2 tk2 σ' ex' F4 N4 fr D4
    try dsimp only
    have fr' : ∀ p ∈ ex', s.heap.get? p.1 = none := fun p hp => there_of G' F3 N3 (fun p hp => ⟨_, hp⟩) (fr p hp)
    k_steps
    rename Fr g' _ _ _ => F5
    rename News g' _ _ _ => N5
    obtain ⟨Fa, Na⟩ := back F N G' F5 N5
    exact ret _ _ _ σ' ex' Fa Na (far_of N fr') (by rw [hb]; exact D4) (by rw [hb]; rfl)
  · intro hb e d q u1 u2 u3 h3 tk3 R3 up
    have k0 : ∀ b o, s.heap.get? b = some o → _ = some o := fun b o e => keeps_of (M := []) G' S' F3 N3 (fun p hp _ => hp) b o e (by simp)
    have hLL : L < L' := by
      obtain ⟨oL, _, _, hL, _⟩ := F.ns
      refine Nat.lt_of_lt_of_le (Heap.lt_size (G' L oL hL fun q => ?_)) F3.above
      obtain ⟨p, hp, e⟩ := List.mem_map.mp q
      exact (N p hp).2.1 e
    have hnn : ∀ q' ∈ (d, errD q "unexpected_token" u1 (tokAt R sp).at' u2 x u3) :: led c σ ex, q'.1 ≠ L' := fun q' hq' => by
      rcases List.mem_cons.mp hq' with rfl | hq'
      · intro ed
        obtain ⟨B0, a0, _, hl, hfl, _⟩ := R3
        have z := hfl.1 _ _ (hl _ (.head _)).1
        obtain ⟨oT, _, _, hT, hTd, _, hTm⟩ := up.ns F3.ns
        dsimp only at ed z
        subst ed
        rw [hT] at z
        cases z
        cases hTd
        cases hTm "sort"
      · exact (N3 _ hq').2.1
    have hbL : h₀.get? L = none := Heap.get?_none_of_le F.above
    refine caught_own (L := L) (m := m) (base := h₀) (outer := [envX cn cs L a ccd cl]) (mt := _) rfl R3 (up.ns F3.ns) (Nat.le_trans F.above (Nat.le_of_lt hLL)) ((((Heap.UpToSlots.of_keeps k0)).trans up).ns F.ns) (Nat.ne_of_lt hLL) hbL hnn X (topRead_of T) (by k_is) rfl rfl rfl ?_
    clear hLL hnn k0
    intro h5 tk5 oe oL F5 N5 ec ed en eL
    try dsimp only
    dsimp only [led] at N5
    have I5 : InstAt h5 e oe 45 (some (errD q "unexpected_token" u1 (tokAt R sp).at' u2 x u3)) := ⟨(N5 _ (.head _)).1, ec, en, by rw [ed]; exact (N5 _ (.tail _ (.tail _ (.head _)))).1⟩
    have X5 := X.keeps F5.keep
    k_steps
    rename Fr h₀ _ _ _ => F6
    rename News h₀ _ _ _ => N6
    rename @LT.lt Nat _ e _ ∧ _ => l1
    refine ⟨_, _, _, _, rfl, F6, N6, fun h7 tk7 N7 k7 => ?_⟩
    obtain ⟨Fa, Na, far, D'⟩ := caught_end F N N7 k7 eL l1.2.1 l1.2.2.2 D
    exact ret _ _ _ σ _ Fa Na far (by rw [hb]; exact D') (by rw [hb]; exact ⟨_, _, _, _, rfl, List.mem_append_right _ (.head _), ⟨_, rfl⟩, ⟨_, rfl⟩, ⟨_, rfl⟩⟩)
theorem told_expect_id {c : CA} {σ : CS} {R : List Tk} {ex : List (Addr × Obj)} {sp se : Nat} {x : Str} {nn : Int} {t1 t2 t3 : Tok}
    (B : Below A₀ h₀ [] h₀) (F : Fr h₀ L s.heap m) (X : (hd.heap_1 w.params).In h₀) (N : News h₀ L s.heap (led c σ ex)) (T : Top p loose mean mg mb h₀) (hk : cs.kind = .function) (hd : dp + 24 < 600) (hu : un + 200 < 2000)
    (D : Rel R sp se c σ ex) (hse : se < 900)
    (ret : ∀ r h' tk' σ' ex', Fr h₀ L h' m → News h₀ L h' (led c σ' (ex ++ ex')) → Far ex' (led c σ ex) → Rel R (if (tokAt R sp).kd = "id" then sp + 1 else sp) (if (tokAt R sp).kd = "id" then max se (sp + 1) else se) c σ' (ex ++ ex') →
      AnsIs (ex ++ ex') r (if (tokAt R sp).kd = "id" then .one (tokAt R sp).val.dt else errAns "unexpected_token" (tokAt R sp).at' "name") → Q r { s with heap := h', toks := tk' }) :
    wpAny (model PySem.Challenge.rw_sj0029_01.row.prog w) (ktrTop dp un gd cn cs L a ccd cl []) (call (.ref 243) [.ref c.xc, .str "expect_id" t1, .int nn t2, .str x t3]) Q E s := by
  have hrl : 600 < recursionLimit := by decide
  have hcl : 2000 < cLine := by decide
  refine wpAny_call ?_
  k_dflt cell_enter
  intro g' L' hh G' S' l' F' N' B' X' T'
  clear l'
  try dsimp only
  k_steps
  rename Fr g' _ _ _ => F3
  rename News g' _ _ _ => N3
  refine ⟨expect_id_in (c := c) (σ := σ) (ex := ex) (R := R) (sp := sp) (se := se) (by assumption) F3 (by assumption) N3 (by assumption) rfl ?_ ?_ D (by omega) ?_ ?_⟩
  · show dp + 1 + 20 < _; omega
  · show un + 3 + 150 < _; omega
  · intro hb vv h2 tk2 σ' ex' F4 N4 fr D4 hv
    try dsimp only
    have fr' : ∀ p ∈ ex', s.heap.get? p.1 = none := fun p hp => there_of G' F3 N3 (fun p hp => ⟨_, hp⟩) (fr p hp)
    k_steps
    rename Fr g' _ _ _ => F5
    rename News g' _ _ _ => N5
    obtain ⟨Fa, Na⟩ := back F N G' F5 N5
    exact ret _ _ _ σ' ex' Fa Na (far_of N fr') (by rw [if_pos hb, if_pos hb]; exact D4) (by rw [if_pos hb]; exact Vl.dt_is hv)
  · intro hb e d q u1 u2 u3 h3 tk3 R3 up
    have k0 : ∀ b o, s.heap.get? b = some o → _ = some o := fun b o e => keeps_of (M := []) G' S' F3 N3 (fun p hp _ => hp) b o e (by simp)
    have hLL : L < L' := by
      obtain ⟨oL, _, _, hL, _⟩ := F.ns
      refine Nat.lt_of_lt_of_le (Heap.lt_size (G' L oL hL fun q => ?_)) F3.above
      obtain ⟨p, hp, e⟩ := List.mem_map.mp q
      exact (N p hp).2.1 e
    have hnn : ∀ q' ∈ (d, errD q "unexpected_token" u1 (tokAt R sp).at' u2 "name" u3) :: led c σ ex, q'.1 ≠ L' := fun q' hq' => by
      rcases List.mem_cons.mp hq' with rfl | hq'
      · intro ed
        obtain ⟨B0, a0, _, hl, hfl, _⟩ := R3
        have z := hfl.1 _ _ (hl _ (.head _)).1
        obtain ⟨oT, _, _, hT, hTd, _, hTm⟩ := up.ns F3.ns
        dsimp only at ed z
        subst ed
        rw [hT] at z
        cases z
        cases hTd
        cases hTm "sort"
      · exact (N3 _ hq').2.1
    have hbL : h₀.get? L = none := Heap.get?_none_of_le F.above
    refine caught_own (L := L) (m := m) (base := h₀) (outer := [envX cn cs L a ccd cl]) (mt := _) rfl R3 (up.ns F3.ns) (Nat.le_trans F.above (Nat.le_of_lt hLL)) ((((Heap.UpToSlots.of_keeps k0)).trans up).ns F.ns) (Nat.ne_of_lt hLL) hbL hnn X (topRead_of T) (by k_is) rfl rfl rfl ?_
    clear hLL hnn k0
    intro h5 tk5 oe oL F5 N5 ec ed en eL
    try dsimp only
    dsimp only [led] at N5
    have I5 : InstAt h5 e oe 45 (some (errD q "unexpected_token" u1 (tokAt R sp).at' u2 "name" u3)) := ⟨(N5 _ (.head _)).1, ec, en, by rw [ed]; exact (N5 _ (.tail _ (.tail _ (.head _)))).1⟩
    have X5 := X.keeps F5.keep
    k_steps
    rename Fr h₀ _ _ _ => F6
    rename News h₀ _ _ _ => N6
    rename @LT.lt Nat _ e _ ∧ _ => l1
    refine ⟨_, _, _, _, rfl, F6, N6, fun h7 tk7 N7 k7 => ?_⟩
    obtain ⟨Fa, Na, far, D'⟩ := caught_end F N N7 k7 eL l1.2.1 l1.2.2.2 D
    exact ret _ _ _ σ _ Fa Na far (by rw [if_neg hb, if_neg hb]; exact D') (by rw [if_neg hb]; exact ⟨_, _, _, _, rfl, List.mem_append_right _ (.head _), ⟨_, rfl⟩, ⟨_, rfl⟩, ⟨_, rfl⟩⟩)
theorem told_fail {c : CA} {σ : CS} {R : List Tk} {ex : List (Addr × Obj)} {sp se : Nat} {x : Str} {nn : Int} {t1 t2 t3 : Tok}
    (B : Below A₀ h₀ [] h₀) (F : Fr h₀ L s.heap m) (X : (hd.heap_1 w.params).In h₀) (N : News h₀ L s.heap (led c σ ex)) (T : Top p loose mean mg mb h₀) (hk : cs.kind = .function) (hd : dp + 24 < 600) (hu : un + 200 < 2000)
    (D : Rel R sp se c σ ex) (hse : se < 900)
    (ret : ∀ r h' tk' σ' ex', Fr h₀ L h' m → News h₀ L h' (led c σ' (ex ++ ex')) → Far ex' (led c σ ex) → Rel R sp se c σ' (ex ++ ex') →
      AnsIs (ex ++ ex') r (errAns "odd_thing" (tokAt R sp).at' x) → Q r { s with heap := h', toks := tk' }) :
    wpAny (model PySem.Challenge.rw_sj0029_01.row.prog w) (ktrTop dp un gd cn cs L a ccd cl []) (call (.ref 243) [.ref c.xc, .str "fail" t1, .int nn t2, .str x t3]) Q E s := by
  have hrl : 600 < recursionLimit := by decide
  have hcl : 2000 < cLine := by decide
  refine wpAny_call ?_
  k_dflt cell_enter
  intro g' L' hh G' S' l' F' N' B' X' T'
  clear l'
  try dsimp only
  k_steps
  rename Fr g' _ _ _ => F3
  rename News g' _ _ _ => N3
  refine ⟨fail_in (c := c) (σ := σ) (ex := ex) (by assumption) F3 (by assumption) N3 (by assumption) rfl ?_ ?_ ?_⟩
  · show dp + 1 + 10 < _; omega
  · show un + 3 + 100 < _; omega
  rw [D.i]
  · intro e d q u1 u2 u3 h3 tk3 R3 up
    have k0 : ∀ b o, s.heap.get? b = some o → _ = some o := fun b o e => keeps_of (M := []) G' S' F3 N3 (fun p hp _ => hp) b o e (by simp)
    have hLL : L < L' := by
      obtain ⟨oL, _, _, hL, _⟩ := F.ns
      refine Nat.lt_of_lt_of_le (Heap.lt_size (G' L oL hL fun q => ?_)) F3.above
      obtain ⟨p, hp, e⟩ := List.mem_map.mp q
      exact (N p hp).2.1 e
    have hnn : ∀ q' ∈ (d, errD q "odd_thing" u1 (tokAt R sp).at' u2 x u3) :: led c σ ex, q'.1 ≠ L' := fun q' hq' => by
      rcases List.mem_cons.mp hq' with rfl | hq'
      · intro ed
        obtain ⟨B0, a0, _, hl, hfl, _⟩ := R3
        have z := hfl.1 _ _ (hl _ (.head _)).1
        obtain ⟨oT, _, _, hT, hTd, _, hTm⟩ := up.ns F3.ns
        dsimp only at ed z
        subst ed
        rw [hT] at z
        cases z
        cases hTd
        cases hTm "sort"
      · exact (N3 _ hq').2.1
    have hbL : h₀.get? L = none := Heap.get?_none_of_le F.above
    refine caught_own (L := L) (m := m) (base := h₀) (outer := [envX cn cs L a ccd cl]) (mt := _) rfl R3 (up.ns F3.ns) (Nat.le_trans F.above (Nat.le_of_lt hLL)) ((((Heap.UpToSlots.of_keeps k0)).trans up).ns F.ns) (Nat.ne_of_lt hLL) hbL hnn X (topRead_of T) (by k_is) rfl rfl rfl ?_
    clear hLL hnn k0
    intro h5 tk5 oe oL F5 N5 ec ed en eL
    try dsimp only
    dsimp only [led] at N5
    have I5 : InstAt h5 e oe 45 (some (errD q "odd_thing" u1 (tokAt R sp).at' u2 x u3)) := ⟨(N5 _ (.head _)).1, ec, en, by rw [ed]; exact (N5 _ (.tail _ (.tail _ (.head _)))).1⟩
    have X5 := X.keeps F5.keep
    k_steps
    rename Fr h₀ _ _ _ => F6
    rename News h₀ _ _ _ => N6
    rename @LT.lt Nat _ e _ ∧ _ => l1
    refine ⟨_, _, _, _, rfl, F6, N6, fun h7 tk7 N7 k7 => ?_⟩
    obtain ⟨Fa, Na, far, D'⟩ := caught_end F N N7 k7 eL l1.2.1 l1.2.2.2 D
    exact ret _ _ _ σ _ Fa Na far D' ⟨_, _, _, _, rfl, List.mem_append_right _ (.head _), ⟨_, rfl⟩, ⟨_, rfl⟩, ⟨_, rfl⟩⟩
-- a look at nothing ahead
theorem peek0_in {c : CA} {σ : CS} {ex : List (Addr × Obj)} {t1 : Tok} {tx : Addr}
    (B : Below A₀ base outer h₀) (F : Fr h₀ L s.heap m) (X : (hd.heap_1 w.params).In h₀) (N : News h₀ L s.heap (led c σ ex)) (T : Top p loose mean mg mb h₀) (hk : cs.kind = .function) (hd : dp + 4 < 600) (hu : un + 20 < 2000) (htv : σ.tv = .ref tx)
    (ret : ∀ h' tk', Fr h₀ L h' m → News h₀ L h' (led c σ ex) → Q σ.tv { s with heap := h', toks := tk' }) :
    wpAny (model PySem.Challenge.rw_sj0029_01.row.prog w) (ktrTop dp un gd cn cs L a ccd cl outer) (call (.ref 125) [.ref c.xc, .int 0 t1]) Q E s := by
  have hrl : 600 < recursionLimit := by decide
  have hcl : 2000 < cLine := by decide
  obtain ⟨hs, tv, i, ti, ah, na, pl, tp, b⟩ := σ
  dsimp only at htv
  subst htv
  refine wpAny_call ?_
  k_dflt cell_enter
  intro g' L' hh G' S' l' F' N' B' X' T'
  clear l'
  try dsimp only
  k_steps
  rename Fr g' _ _ _ => F3
  rename News g' _ _ _ => N3
  obtain ⟨Fa, Na⟩ := back F N G' F3 N3
  exact ret _ _ Fa Na
theorem told_peek0 {c : CA} {σ : CS} {R : List Tk} {ex : List (Addr × Obj)} {sp se : Nat} {x : Str} {t1 t2 t3 : Tok}
    (B : Below A₀ h₀ [] h₀) (F : Fr h₀ L s.heap m) (X : (hd.heap_1 w.params).In h₀) (N : News h₀ L s.heap (led c σ ex)) (T : Top p loose mean mg mb h₀) (hk : cs.kind = .function) (hd : dp + 24 < 600) (hu : un + 200 < 2000)
    (D : Rel R sp se c σ ex) (hse : se < 900)
    (ret : ∀ r h' tk' ex', Fr h₀ L h' m → News h₀ L h' (led c σ (ex ++ ex')) → (∀ p ∈ ex', s.heap.get? p.1 = none) → Rel R sp se c σ (ex ++ ex') → AnsIs (ex ++ ex') r (tokAt R sp).ans → Q r { s with heap := h', toks := tk' }) :
    wpAny (model PySem.Challenge.rw_sj0029_01.row.prog w) (ktrTop dp un gd cn cs L a ccd cl []) (call (.ref 243) [.ref c.xc, .str "peek" t1, .int 0 t2, .str x t3]) Q E s := by
  have hrl : 600 < recursionLimit := by decide
  have hcl : 2000 < cLine := by decide
  refine wpAny_call ?_
  k_dflt cell_enter
  intro g' L' hh G' S' l' F' N' B' X' T'
  clear l'
  try dsimp only
  k_steps
  rename Fr g' _ _ _ => F3
  rename News g' _ _ _ => N3
  obtain ⟨y, dy, q', u1, vv, u3, hr, m1, m2, hv⟩ := D.tv
  refine ⟨peek0_in (c := c) (σ := σ) (ex := ex) (tx := y) (by assumption) F3 (by assumption) N3 (by assumption) rfl ?_ ?_ hr ?_⟩
  · show dp + 1 + 4 < _; omega
  · show un + 3 + 20 < _; omega
  intro h2 tk2 F4 N4
  try dsimp only
  rw [hr]
  have hin : handedIn vv = true := handed_val hv
  have N5 := news_sub N4 (cons_in (in_led m1) (cons_in (in_led m2) (l := led c σ ex) (by first | ktd_sub | fail)))
  k_steps
  rename Fr g' _ _ _ => F6
  rename News g' _ _ _ => N6
  rename @LT.lt Nat _ y _ ∧ _ => l1
  obtain ⟨Fa, Na, fr2, D5⟩ := fin_tup (ex' := []) F N G' F6 N6 (by rw [List.append_nil]; first | ktd_sub | fail) (by rw [List.append_nil]; exact l1.2.2) (fun _ h => nomatch h) (by rw [List.append_nil]; exact D)
  exact ret _ _ _ _ Fa Na fr2 D5 ⟨_, _, _, _, rfl, List.mem_append_right _ (.head _), ⟨_, rfl⟩, Vl.dt_is hv, ⟨_, rfl⟩⟩
end
-- the history's own words: a world's places
structure WA where
  wd : Nat
  lr : Nat
  vals : List Value
  n : Nat
abbrev wled (W : WA) (od : Obj) (ex : List (Addr × Obj)) : List (Addr × Obj) := (W.wd, od) :: (W.lr, listOf W.vals.toArray W.n) :: ex
def WIs (w : World) (sp se : Nat) (W : WA) (od : Obj) : Prop := ∃ t1 t2, od.IsDictOf (strKind PySem.Challenge.rw_sj0029_01.row.prog w) [(Str.ofString "row", .ref W.lr), (Str.ofString "spot", .int sp t1), (Str.ofString "seen", .int se t2)]
structure WRow (R : List Tk) (W : WA) (ex : List (Addr × Obj)) : Prop where
  len : W.vals.length = R.length
  at' : ∀ (i : Nat) (v : Value) (t : Tk), W.vals[i]? = some v → R[i]? = some t → AnsIs ex v t.ans
  lr : W.lr ≠ W.wd
  wd : ∀ p ∈ ex, p.1 ≠ W.wd
theorem max_eq_ite {a b : Nat} : ((max a b : Nat) : Int) = if (b : Int) > a then (b : Int) else a := by split <;> omega
theorem AnsIs.mono {ex ex' : List (Addr × Obj)} {v : Value} {a : Ans} (h : AnsIs ex v a) (s : ∀ p ∈ ex, p ∈ ex') : AnsIs ex' v a := by
  cases a with
  | tup a b c => obtain ⟨y, va, vb, vc, e, hm, r⟩ := h; exact ⟨y, va, vb, vc, e, s _ hm, r⟩
  | bool b => exact h
  | none => exact h
  | one d => exact h
--MAC
local macro_rules | `(tactic| walk_at "subscriptTail") => `(tactic| (k_here; (with_reducible show wpAny _ _ (subscriptTail _ _ (Value.ref _) (Value.str _ _)) _ _ _); k_dflt (refine kda_item (knd := PySem.strKind _ _) (by k_asm) (by k_mem) (by k_asm) (strKind_is _ _ _ _) (by rfl) ?_; (try dsimp only))))
local macro_rules | `(tactic| walk_at "setItem ref str") => `(tactic| (k_here; k_dflt (refine' kda_set (knd := PySem.strKind _ _) ?F ?N ?U ?d (strKind_is _ _ _ _) ?z ?_; (case F | N => k_asm); (case U => k_updF); (case d => k_asm); (case z => kob_size)); intro h' o' F' N' hd'; (try kob_lit); (try dsimp only at N')))
--END
section
variable {w : World} {dp un : Nat} {gd : Option (List Code)} {cn : Str} {cs : Scope} {a : Addr} {ccd : Value} {cl : List (Str × Addr)} {outer : List Env} {A₀ : Around} {base h₀ : Heap} {L : Addr} {m : Str → Option Value} {s : Shared} {E : Value → Shared → Prop}
  {p : Program} {loose : List Str} {mean : ExcName → Option Value} {mg mb : Str → Option Value} {Q : Value → Shared → Prop}
theorem at_in {R : List Tk} {W : WA} {od : Obj} {ex : List (Addr × Obj)} {sp se nn : Nat} {tn : Tok}
    (B : Below A₀ base outer h₀) (F : Fr h₀ L s.heap m) (X : (hd.heap_1 w.params).In h₀) (N : News h₀ L s.heap (wled W od ex)) (T : Top p loose mean mg mb h₀) (hk : cs.kind = .function) (hd : dp + 4 < 600) (hu : un + 20 < 2000)
    (D : WIs w sp se W od) (hR : WRow R W ex) (hsp : sp ≤ 1000) (hse : se ≤ 1000) (hn : nn ≤ 3) (hl : R.length ≤ 1000)
    (ret : ∀ r h' tk' od' ex', Fr h₀ L h' m → News h₀ L h' (wled W od' (ex ++ ex')) → (∀ p ∈ ex', s.heap.get? p.1 = none) → WIs w sp (max se (sp + nn)) W od' → AnsIs (ex ++ ex') r (tokAt R (sp + nn)).ans → Q r { s with heap := h', toks := tk' }) :
    wpAny (model PySem.Challenge.rw_sj0029_01.row.prog w) (ktrTop dp un gd cn cs L a ccd cl outer) (call (.ref 222) [.ref W.wd, .int nn tn]) Q E s := by
  have hrl : 600 < recursionLimit := by decide
  have hcl : 2000 < cLine := by decide
  obtain ⟨wd, lr, vals, n⟩ := W
  obtain ⟨t1, t2, hD⟩ := D
  obtain ⟨hlen, hat, hlr, hwd⟩ := hR
  dsimp only [wled] at *
  have e1 : Dif wd lr := ⟨fun e => hlr e.symm⟩
  by_cases hlt : sp + nn < R.length
  · obtain ⟨v, hv⟩ : ∃ v, vals[((sp : Int) + (nn : Int)).toNat]? = some v := ⟨_, List.getElem?_eq_getElem (by omega)⟩
    have ha := hat _ v (tokAt R (sp + nn)) hv (by
      unfold tokAt
      rw [show ((sp : Int) + (nn : Int)).toNat = sp + nn from by omega, List.getD_eq_getElem?_getD, List.getElem?_eq_getElem hlt]; rfl)
    refine wpAny_call ?_
    k_dflt cell_enter
    intro g' L' hh G' S' l' F' N' B' X' T'
    clear l'
    try dsimp only
    refine foldL F' ?_
    intro tk0 Ak mk F8
    k_fold
    k_steps
    rename Fr g' _ _ _ => F3
    rename News g' _ _ _ => N3
    obtain ⟨Fa, Na⟩ := back F N G' F3 N3
    refine ret _ _ _ _ [] Fa (by rw [List.append_nil]; exact Na) (fun _ h => nomatch h) ⟨_, _, by rw [max_eq_ite]; assumption⟩ (by rw [List.append_nil]; exact ha)
  · have hlt' : R.length ≤ sp + nn := Nat.le_of_not_lt hlt
    have ht : tokAt R (sp + nn) = eofTk := by
      unfold tokAt
      rw [List.getD_eq_getElem?_getD, List.getElem?_eq_none hlt']; rfl
    refine wpAny_call ?_
    k_dflt cell_enter
    intro g' L' hh G' S' l' F' N' B' X' T'
    clear l'
    try dsimp only
    refine foldL F' ?_
    intro tk0 Ak mk F8
    k_fold
    k_steps
    rename Fr g' _ _ _ => F3
    rename News g' _ _ _ => N3
    rename @LT.lt Nat _ wd _ ∧ _ => l1
    have fz := fresh_of G' N3 (.head _) (by
      intro p hp e
      rcases List.mem_cons.mp hp with rfl | hp
      · exact Nat.ne_of_lt l1.1 e
      rcases List.mem_cons.mp hp with rfl | hp
      · exact Nat.ne_of_lt l1.2.1 e
      · exact Nat.ne_of_lt (allLt_mem l1.2.2 p hp) e)
    obtain ⟨Fa, Na⟩ := back F N G' F3 (news_sub N3 (n' := (wd, _) :: (lr, listOf vals.toArray n) :: (ex ++ [(_, _)])) (by first | ktd_sub | fail))
    exact ret _ _ _ _ _ Fa Na (fun p hp => by cases List.mem_singleton.mp hp; exact fz) ⟨_, _, by rw [max_eq_ite]; assumption⟩ (by rw [ht]; exact ⟨_, _, _, _, rfl, List.mem_append_right _ (.head _), ⟨_, rfl⟩, ⟨_, rfl⟩, ⟨_, rfl⟩⟩)
end
theorem WRow.app {h₀ h : Heap} {L : Addr} {R : List Tk} {W : WA} {od : Obj} {ex ex' : List (Addr × Obj)} (D : WRow R W ex) (N : News h₀ L h (wled W od ex)) (fr : ∀ p ∈ ex', h.get? p.1 = none) : WRow R W (ex ++ ex') :=
  ⟨D.len, fun i v t a b => (D.at' i v t a b).mono sub_app, D.lr, ex_ne N (.head _) D.wd fr⟩
section
variable {w : World} {dp un : Nat} {gd : Option (List Code)} {cn : Str} {cs : Scope} {a : Addr} {ccd : Value} {cl : List (Str × Addr)} {outer : List Env} {A₀ : Around} {base h₀ : Heap} {L : Addr} {m : Str → Option Value} {s : Shared} {E : Value → Shared → Prop}
  {p : Program} {loose : List Str} {mean : ExcName → Option Value} {mg mb : Str → Option Value} {Q : Value → Shared → Prop}
theorem at0_in {R : List Tk} {W : WA} {od : Obj} {ex : List (Addr × Obj)} {sp se : Nat} {tn : Tok}
    (B : Below A₀ base outer h₀) (F : Fr h₀ L s.heap m) (X : (hd.heap_1 w.params).In h₀) (N : News h₀ L s.heap (wled W od ex)) (T : Top p loose mean mg mb h₀) (hk : cs.kind = .function) (hd : dp + 4 < 600) (hu : un + 20 < 2000)
    (D : WIs w sp se W od) (hR : WRow R W ex) (hsp : sp ≤ 1000) (hse : se ≤ 1000) (hl : R.length ≤ 1000)
    (ret : ∀ r h' tk' od' ex', Fr h₀ L h' m → News h₀ L h' (wled W od' (ex ++ ex')) → (∀ p ∈ ex', s.heap.get? p.1 = none) → WIs w sp (max se sp) W od' → AnsIs (ex ++ ex') r (tokAt R sp).ans → Q r { s with heap := h', toks := tk' }) :
    wpAny (model PySem.Challenge.rw_sj0029_01.row.prog w) (ktrTop dp un gd cn cs L a ccd cl outer) (call (.ref 222) [.ref W.wd, .int 0 tn]) Q E s :=
  at_in (nn := 0) B F X N T hk hd hu D hR hsp hse (by omega) hl ret
theorem step_in {R : List Tk} {W : WA} {od : Obj} {ex : List (Addr × Obj)} {sp se : Nat}
    (B : Below A₀ base outer h₀) (F : Fr h₀ L s.heap m) (X : (hd.heap_1 w.params).In h₀) (N : News h₀ L s.heap (wled W od ex)) (T : Top p loose mean mg mb h₀) (hk : cs.kind = .function) (hd : dp + 8 < 600) (hu : un + 40 < 2000)
    (D : WIs w sp se W od) (hR : WRow R W ex) (hle : sp ≤ se) (hse : se < 1000) (hl : R.length ≤ 1000)
    (ret : ∀ r h' tk' od' ex', Fr h₀ L h' m → News h₀ L h' (wled W od' (ex ++ ex')) → (∀ p ∈ ex', s.heap.get? p.1 = none) → WIs w (sp + 1) (max se (sp + 1)) W od' → AnsIs (ex ++ ex') r (tokAt R sp).ans → Q r { s with heap := h', toks := tk' }) :
    wpAny (model PySem.Challenge.rw_sj0029_01.row.prog w) (ktrTop dp un gd cn cs L a ccd cl outer) (call (.ref 229) [.ref W.wd]) Q E s := by
  have hrl : 600 < recursionLimit := by decide
  have hcl : 2000 < cLine := by decide
  refine wpAny_call ?_
  k_dflt cell_enter
  intro g' L' hh G' S' l' F' N' B' X' T'
  clear l'
  try dsimp only
  refine foldL F' ?_
  intro tk0 Ak mk F8
  k_fold
  k_steps
  rename Fr g' _ _ _ => F3
  rename News g' _ _ _ => N3
  refine ⟨at0_in (R := R) (W := W) (od := od) (ex := ex) (sp := sp) (se := se) (by assumption) F3 (by assumption) N3 (by assumption) rfl ?_ ?_ D hR (by omega) (by omega) hl ?_⟩
  · show dp + 1 + 4 < _; omega
  · show un + 3 + 20 < _; omega
  intro r h2 tk2 od2 ex2 F4 N4 fr2 D2 hA
  try dsimp only
  have fr2' : ∀ p ∈ ex2, s.heap.get? p.1 = none := fun p hp => there_of G' F3 N3 (fun p hp => ⟨_, hp⟩) (fr2 p hp)
  have hR2 := hR.app N3 fr2
  obtain ⟨t1, t2, hD2⟩ := D2
  have hin : handedIn r = true := by obtain ⟨_, _, _, _, rfl, _⟩ := hA; rfl
  have e1 : Dif W.wd W.lr := ⟨fun e => hR.lr e.symm⟩
  have e2 := hR2.wd
  dsimp only [wled] at N4
  k_steps
  rename Obj.IsDictOf _ _ _ => hD5
  rename Fr g' _ _ _ => F5
  rename News g' _ _ _ => N5
  have hm : max se sp = se := by omega
  rw [hm] at hD5
  refine ⟨at0_in (R := R) (W := W) (ex := ex ++ ex2) (sp := sp + 1) (se := se) (by assumption) F5 (by assumption) N5 (by assumption) rfl ?_ ?_ ⟨_, _, hD5⟩ hR2 (by omega) (by omega) hl ?_⟩
  · show dp + 1 + 4 < _; omega
  · show un + 3 + 20 < _; omega
  intro r2 h6 tk6 od6 ex6 F6 N6 fr6 D6 hA6
  try dsimp only
  have fr6' : ∀ p ∈ ex6, s.heap.get? p.1 = none := fun p hp => there_of G' F5 N5 (by first | kst_inAny | fail) (fr6 p hp)
  k_steps
  rename Fr g' _ _ _ => F7
  rename News g' _ _ _ => N7
  obtain ⟨Fa, Na⟩ := back F N G' F7 N7
  rw [List.append_assoc] at Na
  exact ret _ _ _ _ _ Fa Na (fun p hp => (List.mem_append.mp hp).elim (fr2' p) (fr6' p)) D6 (hA.mono fun p hp => by rw [← List.append_assoc]; exact List.mem_append_left _ hp)
end
structure Once : Prop where
  out : True
-- the sign's or keyword's test, once
def Stood (b : Bool) (s : Shared) (v : Value) (s' : Shared) : Prop := ∃ tk', v = .bool b ∧ s' = { s with toks := tk' }
theorem stood_eval {M : Model} {A : Around} {E : Value → Shared → Prop} {t : Sem Value} {b : Bool} {Q : Value → Shared → Prop} {s : Shared} (h : wpAny M A t (Stood b s) E s) (k : ∀ tk', Q (.bool b) { s with toks := tk' }) : wpAny M A t Q E s :=
  wpAny_mono h (fun v s' ⟨tk', hv, hs⟩ => by rw [hv, hs]; exact k tk') fun _ _ z => z
theorem stood_out {b b' : Bool} {s s' : Shared} {tk : Tok} (e : b' = b) (h1 : s' = { s with toks := tk }) : Stood b s (.bool b') s' := ⟨tk, by rw [e], h1⟩
section
variable {w : World} {dp un : Nat} {gd : Option (List Code)} {cn : Str} {cs : Scope} {a : Addr} {ccd : Value} {cl : List (Str × Addr)} {outer : List Env} {A₀ : Around} {base h₀ : Heap} {L : Addr} {m : Str → Option Value} {s : Shared} {E : Value → Shared → Prop}
  {p : Program} {loose : List Str} {mean : ExcName → Option Value} {mg mb : Str → Option Value} {Q : Value → Shared → Prop}
local macro_rules | `(tactic| walk_at "eval BoolOp") => `(tactic| (k_here; (have z9 : Once := by assumption); clear z9; refine Hold.out ?_))
theorem due_peek {R : List Tk} {W : WA} {od : Obj} {ex : List (Addr × Obj)} {sp se : Nat} {x : Str} {nn : Nat} {t1 t2 t3 : Tok}
    (B : Below A₀ base outer h₀) (F : Fr h₀ L s.heap m) (X : (hd.heap_1 w.params).In h₀) (N : News h₀ L s.heap (wled W od ex)) (T : Top p loose mean mg mb h₀) (hk : cs.kind = .function) (hd : dp + 24 < 600) (hu : un + 200 < 2000)
    (D : WIs w sp se W od) (hR : WRow R W ex) (hok : ∀ t ∈ R, t.ok) (hle : sp ≤ se) (hse : se < 900) (hl : R.length ≤ 1000) (hn : nn ≤ 3)
    (ret : ∀ r h' tk' od' ex', Fr h₀ L h' m → News h₀ L h' (wled W od' (ex ++ ex')) → (∀ p ∈ ex', s.heap.get? p.1 = none) → WIs w sp (max se (sp + nn)) W od' → AnsIs (ex ++ ex') r (tokAt R (sp + nn)).ans → Q r { s with heap := h', toks := tk' }) :
    wpAny (model PySem.Challenge.rw_sj0029_01.row.prog w) (ktrTop dp un gd cn cs L a ccd cl outer) (call (.ref 236) [.ref W.wd, .str "peek" t1, .int nn t2, .str x t3]) Q E s := by
  have hrl : 600 < recursionLimit := by decide
  have hcl : 2000 < cLine := by decide
  refine wpAny_call ?_
  k_dflt cell_enter
  intro g' L' hh G' S' l' F' N' B' X' T'
  clear l'
  try dsimp only
  refine foldL F' ?_
  intro tk0 Ak mk F8
  k_fold
  k_steps
  rename Fr g' _ _ _ => F3
  rename News g' _ _ _ => N3
  refine ⟨at0_in (R := R) (W := W) (od := od) (ex := ex) (sp := sp) (se := se) (by assumption) F3 (by assumption) N3 (by assumption) rfl ?_ ?_ D hR (by omega) (by omega) hl ?_⟩
  · show dp + 1 + 4 < _; omega
  · show un + 3 + 20 < _; omega
  intro r h2 tk2 od2 ex2 F4 N4 fr2 D2 hA
  try dsimp only
  rw [Nat.max_eq_left hle] at D2
  have fr2' : ∀ p ∈ ex2, s.heap.get? p.1 = none := fun p hp => there_of G' F3 N3 (fun p hp => ⟨_, hp⟩) (fr2 p hp)
  have hR2 := hR.app N3 fr2
  obtain ⟨y, va, vb, vc, rfl, hm, ⟨u1, rfl⟩, hv, ⟨u3, rfl⟩⟩ := hA
  clear N3 F3
  have N5 := news_sub N4 (cons_in (.tail _ (.tail _ hm)) (l := (W.wd, od2) :: (W.lr, listOf W.vals.toArray W.n) :: (ex ++ ex2)) (by first | ktd_sub | fail))

  clear N4
  k_steps
  rename Fr g' _ _ _ => F5
  rename News g' _ _ _ => N6
  refine ⟨at_in (R := R) (W := W) (od := od2) (ex := ex ++ ex2) (sp := sp) (se := se) (nn := nn) (by assumption) F5 (by assumption) (news_sub N6 (by first | ktd_sub | fail)) (by assumption) rfl ?_ ?_ D2 hR2 (by omega) (by omega) hn hl ?_⟩
  · show dp + 1 + 4 < _; omega
  · show un + 3 + 20 < _; omega
  intro r6 h6 tk6 od6 ex6 F6 N7 fr6 D6 hA6
  try dsimp only
  have fr6' : ∀ p ∈ ex6, s.heap.get? p.1 = none := fun p hp => there_of G' F5 (news_sub N6 (n' := (W.wd, od2) :: (W.lr, listOf W.vals.toArray W.n) :: (ex ++ ex2)) (by first | ktd_sub | fail)) (by first | kst_inAny | fail) (fr6 p hp)
  have hin : handedIn r6 = true := by obtain ⟨_, _, _, _, rfl, _⟩ := hA6; rfl
  clear N6 F5
  k_steps
  rename Fr g' _ _ _ => F9
  rename News g' _ _ _ => N9
  obtain ⟨Fa, Na⟩ := back F N G' F9 (news_sub N9 (n' := (W.wd, od6) :: (W.lr, listOf W.vals.toArray W.n) :: (ex ++ ex2 ++ ex6)) (by first | ktd_sub | fail))
  rw [List.append_assoc] at Na hA6
  have fr9 : ∀ p ∈ ex2 ++ ex6, s.heap.get? p.1 = none := fun p hp => (List.mem_append.mp hp).elim (fr2' p) (fr6' p)
  exact ret _ _ _ _ _ Fa Na fr9 D6 hA6
theorem due_take {R : List Tk} {W : WA} {od : Obj} {ex : List (Addr × Obj)} {sp se : Nat} {x : Str} {nn : Nat} {t1 t2 t3 : Tok}
    (B : Below A₀ base outer h₀) (F : Fr h₀ L s.heap m) (X : (hd.heap_1 w.params).In h₀) (N : News h₀ L s.heap (wled W od ex)) (T : Top p loose mean mg mb h₀) (hk : cs.kind = .function) (hd : dp + 24 < 600) (hu : un + 200 < 2000)
    (D : WIs w sp se W od) (hR : WRow R W ex) (hok : ∀ t ∈ R, t.ok) (hle : sp ≤ se) (hse : se < 900) (hl : R.length ≤ 1000)
    (ret : ∀ r h' tk' od' ex', Fr h₀ L h' m → News h₀ L h' (wled W od' (ex ++ ex')) → (∀ p ∈ ex', s.heap.get? p.1 = none) → WIs w (sp + 1) (max se (sp + 1)) W od' → AnsIs (ex ++ ex') r (tokAt R sp).ans → Q r { s with heap := h', toks := tk' }) :
    wpAny (model PySem.Challenge.rw_sj0029_01.row.prog w) (ktrTop dp un gd cn cs L a ccd cl outer) (call (.ref 236) [.ref W.wd, .str "take" t1, .int nn t2, .str x t3]) Q E s := by
  have hrl : 600 < recursionLimit := by decide
  have hcl : 2000 < cLine := by decide
  refine wpAny_call ?_
  k_dflt cell_enter
  intro g' L' hh G' S' l' F' N' B' X' T'
  clear l'
  try dsimp only
  refine foldL F' ?_
  intro tk0 Ak mk F8
  k_fold
  k_steps
  rename Fr g' _ _ _ => F3
  rename News g' _ _ _ => N3
  refine ⟨at0_in (R := R) (W := W) (od := od) (ex := ex) (sp := sp) (se := se) (by assumption) F3 (by assumption) N3 (by assumption) rfl ?_ ?_ D hR (by omega) (by omega) hl ?_⟩
  · show dp + 1 + 4 < _; omega
  · show un + 3 + 20 < _; omega
  intro r h2 tk2 od2 ex2 F4 N4 fr2 D2 hA
  try dsimp only
  rw [Nat.max_eq_left hle] at D2
  have fr2' : ∀ p ∈ ex2, s.heap.get? p.1 = none := fun p hp => there_of G' F3 N3 (fun p hp => ⟨_, hp⟩) (fr2 p hp)
  have hR2 := hR.app N3 fr2
  obtain ⟨y, va, vb, vc, rfl, hm, ⟨u1, rfl⟩, hv, ⟨u3, rfl⟩⟩ := hA
  clear N3 F3
  have N5 := news_sub N4 (cons_in (.tail _ (.tail _ hm)) (l := (W.wd, od2) :: (W.lr, listOf W.vals.toArray W.n) :: (ex ++ ex2)) (by first | ktd_sub | fail))

  clear N4
  k_steps
  rename Fr g' _ _ _ => F5
  rename News g' _ _ _ => N6
  refine ⟨step_in (R := R) (W := W) (od := od2) (ex := ex ++ ex2) (sp := sp) (se := se) (by assumption) F5 (by assumption) (news_sub N6 (by first | ktd_sub | fail)) (by assumption) rfl ?_ ?_ D2 hR2 hle (by omega) hl ?_⟩
  · show dp + 1 + 8 < _; omega
  · show un + 3 + 40 < _; omega
  intro r6 h6 tk6 od6 ex6 F6 N7 fr6 D6 hA6
  try dsimp only
  have fr6' : ∀ p ∈ ex6, s.heap.get? p.1 = none := fun p hp => there_of G' F5 (news_sub N6 (n' := (W.wd, od2) :: (W.lr, listOf W.vals.toArray W.n) :: (ex ++ ex2)) (by first | ktd_sub | fail)) (by first | kst_inAny | fail) (fr6 p hp)
  have hin : handedIn r6 = true := by obtain ⟨_, _, _, _, rfl, _⟩ := hA6; rfl
  clear N6 F5
  k_steps
  rename Fr g' _ _ _ => F9
  rename News g' _ _ _ => N9
  obtain ⟨Fa, Na⟩ := back F N G' F9 (news_sub N9 (n' := (W.wd, od6) :: (W.lr, listOf W.vals.toArray W.n) :: (ex ++ ex2 ++ ex6)) (by first | ktd_sub | fail))
  rw [List.append_assoc] at Na hA6
  have fr9 : ∀ p ∈ ex2 ++ ex6, s.heap.get? p.1 = none := fun p hp => (List.mem_append.mp hp).elim (fr2' p) (fr6' p)
  exact ret _ _ _ _ _ Fa Na fr9 D6 hA6
theorem due_is_op {R : List Tk} {W : WA} {od : Obj} {ex : List (Addr × Obj)} {sp se : Nat} {x : Str} {nn : Nat} {t1 t2 t3 : Tok}
    (B : Below A₀ base outer h₀) (F : Fr h₀ L s.heap m) (X : (hd.heap_1 w.params).In h₀) (N : News h₀ L s.heap (wled W od ex)) (T : Top p loose mean mg mb h₀) (hk : cs.kind = .function) (hd : dp + 24 < 600) (hu : un + 200 < 2000)
    (D : WIs w sp se W od) (hR : WRow R W ex) (hok : ∀ t ∈ R, t.ok) (hle : sp ≤ se) (hse : se < 900) (hl : R.length ≤ 1000)
    (ret : ∀ r h' tk' od' ex', Fr h₀ L h' m → News h₀ L h' (wled W od' (ex ++ ex')) → (∀ p ∈ ex', s.heap.get? p.1 = none) → WIs w sp se W od' → AnsIs (ex ++ ex') r (.bool (isTk "op" (tokAt R sp) x)) → Q r { s with heap := h', toks := tk' }) :
    wpAny (model PySem.Challenge.rw_sj0029_01.row.prog w) (ktrTop dp un gd cn cs L a ccd cl outer) (call (.ref 236) [.ref W.wd, .str "is_op" t1, .int nn t2, .str x t3]) Q E s := by
  have hrl : 600 < recursionLimit := by decide
  have hcl : 2000 < cLine := by decide
  refine wpAny_call ?_
  k_dflt cell_enter
  intro g' L' hh G' S' l' F' N' B' X' T'
  clear l'
  try dsimp only
  refine foldL F' ?_
  intro tk0 Ak mk F8
  k_fold
  k_steps
  rename Fr g' _ _ _ => F3
  rename News g' _ _ _ => N3
  refine ⟨at0_in (R := R) (W := W) (od := od) (ex := ex) (sp := sp) (se := se) (by assumption) F3 (by assumption) N3 (by assumption) rfl ?_ ?_ D hR (by omega) (by omega) hl ?_⟩
  · show dp + 1 + 4 < _; omega
  · show un + 3 + 20 < _; omega
  intro r h2 tk2 od2 ex2 F4 N4 fr2 D2 hA
  try dsimp only
  rw [Nat.max_eq_left hle] at D2
  have fr2' : ∀ p ∈ ex2, s.heap.get? p.1 = none := fun p hp => there_of G' F3 N3 (fun p hp => ⟨_, hp⟩) (fr2 p hp)
  have hR2 := hR.app N3 fr2
  obtain ⟨y, va, vb, vc, rfl, hm, ⟨u1, rfl⟩, hv, ⟨u3, rfl⟩⟩ := hA
  clear N3 F3
  have N5 := news_sub N4 (cons_in (.tail _ (.tail _ hm)) (l := (W.wd, od2) :: (W.lr, listOf W.vals.toArray W.n) :: (ex ++ ex2)) (by first | ktd_sub | fail))

  clear N4
  have once : Once := ⟨trivial⟩
  k_steps
  refine ⟨stood_eval (b := isTk "op" (tokAt R sp) x) ?_ fun tk5 => ?_⟩
  · clear ret once
    by_cases hkd : (tokAt R sp).kd = "op"
    · obtain ⟨z, hz⟩ := tokAt_ok hok sp (by simp [hkd])
      have hi : isTk "op" (tokAt R sp) x = (z == x) := by simp [isTk, hkd, hz]
      rw [hz] at hv
      have hk0 : ((tokAt R sp).kd == "op") = true := by simpa using hkd
      obtain ⟨tz, rfl⟩ := hv
      cases hb : z == x with
      | true =>
        k_steps
        exact stood_out (by first | exact hi.symm | (rw [hi]; exact hb) | (rw [hi]; exact hb.symm) | rw [hi, hb]) rfl
      | false =>
        k_steps
        exact stood_out (by first | exact hi.symm | (rw [hi]; exact hb) | (rw [hi]; exact hb.symm) | rw [hi, hb]) rfl
    · have hk0 : ((tokAt R sp).kd == "op") = false := by simpa using hkd
      have hi : isTk "op" (tokAt R sp) x = false := by simp [isTk, hk0]
      k_steps
      exact stood_out (by first | exact hi.symm | (rw [hi]; exact hk0) | rw [hi]) rfl
  k_steps
  rename Fr g' _ _ _ => F9
  rename News g' _ _ _ => N9
  obtain ⟨Fa, Na⟩ := back F N G' F9 (news_sub N9 (n' := (W.wd, od2) :: (W.lr, listOf W.vals.toArray W.n) :: (ex ++ ex2)) (by first | ktd_sub | fail))
  exact ret _ _ _ _ ex2 Fa Na fr2' D2 rfl
theorem due_is_key {R : List Tk} {W : WA} {od : Obj} {ex : List (Addr × Obj)} {sp se : Nat} {x : Str} {nn : Nat} {t1 t2 t3 : Tok}
    (B : Below A₀ base outer h₀) (F : Fr h₀ L s.heap m) (X : (hd.heap_1 w.params).In h₀) (N : News h₀ L s.heap (wled W od ex)) (T : Top p loose mean mg mb h₀) (hk : cs.kind = .function) (hd : dp + 24 < 600) (hu : un + 200 < 2000)
    (D : WIs w sp se W od) (hR : WRow R W ex) (hok : ∀ t ∈ R, t.ok) (hle : sp ≤ se) (hse : se < 900) (hl : R.length ≤ 1000)
    (ret : ∀ r h' tk' od' ex', Fr h₀ L h' m → News h₀ L h' (wled W od' (ex ++ ex')) → (∀ p ∈ ex', s.heap.get? p.1 = none) → WIs w sp se W od' → AnsIs (ex ++ ex') r (.bool (isTk "key" (tokAt R sp) x)) → Q r { s with heap := h', toks := tk' }) :
    wpAny (model PySem.Challenge.rw_sj0029_01.row.prog w) (ktrTop dp un gd cn cs L a ccd cl outer) (call (.ref 236) [.ref W.wd, .str "is_key" t1, .int nn t2, .str x t3]) Q E s := by
  have hrl : 600 < recursionLimit := by decide
  have hcl : 2000 < cLine := by decide
  refine wpAny_call ?_
  k_dflt cell_enter
  intro g' L' hh G' S' l' F' N' B' X' T'
  clear l'
  try dsimp only
  refine foldL F' ?_
  intro tk0 Ak mk F8
  k_fold
  k_steps
  rename Fr g' _ _ _ => F3
  rename News g' _ _ _ => N3
  refine ⟨at0_in (R := R) (W := W) (od := od) (ex := ex) (sp := sp) (se := se) (by assumption) F3 (by assumption) N3 (by assumption) rfl ?_ ?_ D hR (by omega) (by omega) hl ?_⟩
  · show dp + 1 + 4 < _; omega
  · show un + 3 + 20 < _; omega
  intro r h2 tk2 od2 ex2 F4 N4 fr2 D2 hA
  try dsimp only
  rw [Nat.max_eq_left hle] at D2
  have fr2' : ∀ p ∈ ex2, s.heap.get? p.1 = none := fun p hp => there_of G' F3 N3 (fun p hp => ⟨_, hp⟩) (fr2 p hp)
  have hR2 := hR.app N3 fr2
  obtain ⟨y, va, vb, vc, rfl, hm, ⟨u1, rfl⟩, hv, ⟨u3, rfl⟩⟩ := hA
  clear N3 F3
  have N5 := news_sub N4 (cons_in (.tail _ (.tail _ hm)) (l := (W.wd, od2) :: (W.lr, listOf W.vals.toArray W.n) :: (ex ++ ex2)) (by first | ktd_sub | fail))

  clear N4
  have once : Once := ⟨trivial⟩
  k_steps
  refine ⟨stood_eval (b := isTk "key" (tokAt R sp) x) ?_ fun tk5 => ?_⟩
  · clear ret once
    by_cases hkd : (tokAt R sp).kd = "key"
    · obtain ⟨z, hz⟩ := tokAt_ok hok sp (by simp [hkd])
      have hi : isTk "key" (tokAt R sp) x = (z == x) := by simp [isTk, hkd, hz]
      rw [hz] at hv
      have hk0 : ((tokAt R sp).kd == "key") = true := by simpa using hkd
      obtain ⟨tz, rfl⟩ := hv
      cases hb : z == x with
      | true =>
        k_steps
        exact stood_out (by first | exact hi.symm | (rw [hi]; exact hb) | (rw [hi]; exact hb.symm) | rw [hi, hb]) rfl
      | false =>
        k_steps
        exact stood_out (by first | exact hi.symm | (rw [hi]; exact hb) | (rw [hi]; exact hb.symm) | rw [hi, hb]) rfl
    · have hk0 : ((tokAt R sp).kd == "key") = false := by simpa using hkd
      have hi : isTk "key" (tokAt R sp) x = false := by simp [isTk, hk0]
      k_steps
      exact stood_out (by first | exact hi.symm | (rw [hi]; exact hk0) | rw [hi]) rfl
  k_steps
  rename Fr g' _ _ _ => F9
  rename News g' _ _ _ => N9
  obtain ⟨Fa, Na⟩ := back F N G' F9 (news_sub N9 (n' := (W.wd, od2) :: (W.lr, listOf W.vals.toArray W.n) :: (ex ++ ex2)) (by first | ktd_sub | fail))
  exact ret _ _ _ _ ex2 Fa Na fr2' D2 rfl
theorem due_accept_op {R : List Tk} {W : WA} {od : Obj} {ex : List (Addr × Obj)} {sp se : Nat} {x : Str} {nn : Nat} {t1 t2 t3 : Tok}
    (B : Below A₀ base outer h₀) (F : Fr h₀ L s.heap m) (X : (hd.heap_1 w.params).In h₀) (N : News h₀ L s.heap (wled W od ex)) (T : Top p loose mean mg mb h₀) (hk : cs.kind = .function) (hd : dp + 24 < 600) (hu : un + 200 < 2000)
    (D : WIs w sp se W od) (hR : WRow R W ex) (hok : ∀ t ∈ R, t.ok) (hle : sp ≤ se) (hse : se < 900) (hl : R.length ≤ 1000)
    (ret : ∀ r h' tk' od' ex', Fr h₀ L h' m → News h₀ L h' (wled W od' (ex ++ ex')) → (∀ p ∈ ex', s.heap.get? p.1 = none) → WIs w (if isTk "op" (tokAt R sp) x then sp + 1 else sp) (if isTk "op" (tokAt R sp) x then max se (sp + 1) else se) W od' → AnsIs (ex ++ ex') r (.bool (isTk "op" (tokAt R sp) x)) → Q r { s with heap := h', toks := tk' }) :
    wpAny (model PySem.Challenge.rw_sj0029_01.row.prog w) (ktrTop dp un gd cn cs L a ccd cl outer) (call (.ref 236) [.ref W.wd, .str "accept_op" t1, .int nn t2, .str x t3]) Q E s := by
  have hrl : 600 < recursionLimit := by decide
  have hcl : 2000 < cLine := by decide
  refine wpAny_call ?_
  k_dflt cell_enter
  intro g' L' hh G' S' l' F' N' B' X' T'
  clear l'
  try dsimp only
  refine foldL F' ?_
  intro tk0 Ak mk F8
  k_fold
  k_steps
  rename Fr g' _ _ _ => F3
  rename News g' _ _ _ => N3
  refine ⟨at0_in (R := R) (W := W) (od := od) (ex := ex) (sp := sp) (se := se) (by assumption) F3 (by assumption) N3 (by assumption) rfl ?_ ?_ D hR (by omega) (by omega) hl ?_⟩
  · show dp + 1 + 4 < _; omega
  · show un + 3 + 20 < _; omega
  intro r h2 tk2 od2 ex2 F4 N4 fr2 D2 hA
  try dsimp only
  rw [Nat.max_eq_left hle] at D2
  have fr2' : ∀ p ∈ ex2, s.heap.get? p.1 = none := fun p hp => there_of G' F3 N3 (fun p hp => ⟨_, hp⟩) (fr2 p hp)
  have hR2 := hR.app N3 fr2
  obtain ⟨y, va, vb, vc, rfl, hm, ⟨u1, rfl⟩, hv, ⟨u3, rfl⟩⟩ := hA
  clear N3 F3
  have N5 := news_sub N4 (cons_in (.tail _ (.tail _ hm)) (l := (W.wd, od2) :: (W.lr, listOf W.vals.toArray W.n) :: (ex ++ ex2)) (by first | ktd_sub | fail))

  clear N4
  have once : Once := ⟨trivial⟩
  k_steps
  refine ⟨stood_eval (b := isTk "op" (tokAt R sp) x) ?_ fun tk5 => ?_⟩
  · clear ret once
    by_cases hkd : (tokAt R sp).kd = "op"
    · obtain ⟨z, hz⟩ := tokAt_ok hok sp (by simp [hkd])
      have hi : isTk "op" (tokAt R sp) x = (z == x) := by simp [isTk, hkd, hz]
      rw [hz] at hv
      have hk0 : ((tokAt R sp).kd == "op") = true := by simpa using hkd
      obtain ⟨tz, rfl⟩ := hv
      cases hb : z == x with
      | true =>
        k_steps
        exact stood_out (by first | exact hi.symm | (rw [hi]; exact hb) | (rw [hi]; exact hb.symm) | rw [hi, hb]) rfl
      | false =>
        k_steps
        exact stood_out (by first | exact hi.symm | (rw [hi]; exact hb) | (rw [hi]; exact hb.symm) | rw [hi, hb]) rfl
    · have hk0 : ((tokAt R sp).kd == "op") = false := by simpa using hkd
      have hi : isTk "op" (tokAt R sp) x = false := by simp [isTk, hk0]
      k_steps
      exact stood_out (by first | exact hi.symm | (rw [hi]; exact hk0) | rw [hi]) rfl
  cases hi : isTk "op" (tokAt R sp) x with
  | true =>
    k_steps
    rename Fr g' _ _ _ => F5
    rename News g' _ _ _ => N6
    refine ⟨step_in (R := R) (W := W) (od := od2) (ex := ex ++ ex2) (sp := sp) (se := se) (by assumption) F5 (by assumption) (news_sub N6 (by first | ktd_sub | fail)) (by assumption) rfl ?_ ?_ D2 hR2 hle (by omega) hl ?_⟩
    · show dp + 1 + 8 < _; omega
    · show un + 3 + 40 < _; omega
    intro r6 h6 tk6 od6 ex6 F6 N7 fr6 D6 hA6
    try dsimp only
    have fr6' : ∀ p ∈ ex6, s.heap.get? p.1 = none := fun p hp => there_of G' F5 (news_sub N6 (n' := (W.wd, od2) :: (W.lr, listOf W.vals.toArray W.n) :: (ex ++ ex2)) (by first | ktd_sub | fail)) (by first | kst_inAny | fail) (fr6 p hp)
    have hin : handedIn r6 = true := by obtain ⟨_, _, _, _, rfl, _⟩ := hA6; rfl
    clear N6 F5
    k_steps
    rename Fr g' _ _ _ => F9
    rename News g' _ _ _ => N9
    obtain ⟨Fa, Na⟩ := back F N G' F9 (news_sub N9 (n' := (W.wd, od6) :: (W.lr, listOf W.vals.toArray W.n) :: (ex ++ ex2 ++ ex6)) (by first | ktd_sub | fail))
    rw [List.append_assoc] at Na hA6
    have fr9 : ∀ p ∈ ex2 ++ ex6, s.heap.get? p.1 = none := fun p hp => (List.mem_append.mp hp).elim (fr2' p) (fr6' p)
    exact ret _ _ _ _ _ Fa Na fr9 (by rw [hi]; exact D6) (by rw [hi]; rfl)
  | false =>
    k_steps
    rename Fr g' _ _ _ => F9
    rename News g' _ _ _ => N9
    obtain ⟨Fa, Na⟩ := back F N G' F9 (news_sub N9 (n' := (W.wd, od2) :: (W.lr, listOf W.vals.toArray W.n) :: (ex ++ ex2)) (by first | ktd_sub | fail))
    exact ret _ _ _ _ ex2 Fa Na fr2' (by rw [hi]; exact D2) (by rw [hi]; rfl)
theorem due_accept_key {R : List Tk} {W : WA} {od : Obj} {ex : List (Addr × Obj)} {sp se : Nat} {x : Str} {nn : Nat} {t1 t2 t3 : Tok}
    (B : Below A₀ base outer h₀) (F : Fr h₀ L s.heap m) (X : (hd.heap_1 w.params).In h₀) (N : News h₀ L s.heap (wled W od ex)) (T : Top p loose mean mg mb h₀) (hk : cs.kind = .function) (hd : dp + 24 < 600) (hu : un + 200 < 2000)
    (D : WIs w sp se W od) (hR : WRow R W ex) (hok : ∀ t ∈ R, t.ok) (hle : sp ≤ se) (hse : se < 900) (hl : R.length ≤ 1000)
    (ret : ∀ r h' tk' od' ex', Fr h₀ L h' m → News h₀ L h' (wled W od' (ex ++ ex')) → (∀ p ∈ ex', s.heap.get? p.1 = none) → WIs w (if isTk "key" (tokAt R sp) x then sp + 1 else sp) (if isTk "key" (tokAt R sp) x then max se (sp + 1) else se) W od' → AnsIs (ex ++ ex') r (.bool (isTk "key" (tokAt R sp) x)) → Q r { s with heap := h', toks := tk' }) :
    wpAny (model PySem.Challenge.rw_sj0029_01.row.prog w) (ktrTop dp un gd cn cs L a ccd cl outer) (call (.ref 236) [.ref W.wd, .str "accept_key" t1, .int nn t2, .str x t3]) Q E s := by
  have hrl : 600 < recursionLimit := by decide
  have hcl : 2000 < cLine := by decide
  refine wpAny_call ?_
  k_dflt cell_enter
  intro g' L' hh G' S' l' F' N' B' X' T'
  clear l'
  try dsimp only
  refine foldL F' ?_
  intro tk0 Ak mk F8
  k_fold
  k_steps
  rename Fr g' _ _ _ => F3
  rename News g' _ _ _ => N3
  refine ⟨at0_in (R := R) (W := W) (od := od) (ex := ex) (sp := sp) (se := se) (by assumption) F3 (by assumption) N3 (by assumption) rfl ?_ ?_ D hR (by omega) (by omega) hl ?_⟩
  · show dp + 1 + 4 < _; omega
  · show un + 3 + 20 < _; omega
  intro r h2 tk2 od2 ex2 F4 N4 fr2 D2 hA
  try dsimp only
  rw [Nat.max_eq_left hle] at D2
  have fr2' : ∀ p ∈ ex2, s.heap.get? p.1 = none := fun p hp => there_of G' F3 N3 (fun p hp => ⟨_, hp⟩) (fr2 p hp)
  have hR2 := hR.app N3 fr2
  obtain ⟨y, va, vb, vc, rfl, hm, ⟨u1, rfl⟩, hv, ⟨u3, rfl⟩⟩ := hA
  clear N3 F3
  have N5 := news_sub N4 (cons_in (.tail _ (.tail _ hm)) (l := (W.wd, od2) :: (W.lr, listOf W.vals.toArray W.n) :: (ex ++ ex2)) (by first | ktd_sub | fail))

  clear N4
  have once : Once := ⟨trivial⟩
  k_steps
  refine ⟨stood_eval (b := isTk "key" (tokAt R sp) x) ?_ fun tk5 => ?_⟩
  · clear ret once
    by_cases hkd : (tokAt R sp).kd = "key"
    · obtain ⟨z, hz⟩ := tokAt_ok hok sp (by simp [hkd])
      have hi : isTk "key" (tokAt R sp) x = (z == x) := by simp [isTk, hkd, hz]
      rw [hz] at hv
      have hk0 : ((tokAt R sp).kd == "key") = true := by simpa using hkd
      obtain ⟨tz, rfl⟩ := hv
      cases hb : z == x with
      | true =>
        k_steps
        exact stood_out (by first | exact hi.symm | (rw [hi]; exact hb) | (rw [hi]; exact hb.symm) | rw [hi, hb]) rfl
      | false =>
        k_steps
        exact stood_out (by first | exact hi.symm | (rw [hi]; exact hb) | (rw [hi]; exact hb.symm) | rw [hi, hb]) rfl
    · have hk0 : ((tokAt R sp).kd == "key") = false := by simpa using hkd
      have hi : isTk "key" (tokAt R sp) x = false := by simp [isTk, hk0]
      k_steps
      exact stood_out (by first | exact hi.symm | (rw [hi]; exact hk0) | rw [hi]) rfl
  cases hi : isTk "key" (tokAt R sp) x with
  | true =>
    k_steps
    rename Fr g' _ _ _ => F5
    rename News g' _ _ _ => N6
    refine ⟨step_in (R := R) (W := W) (od := od2) (ex := ex ++ ex2) (sp := sp) (se := se) (by assumption) F5 (by assumption) (news_sub N6 (by first | ktd_sub | fail)) (by assumption) rfl ?_ ?_ D2 hR2 hle (by omega) hl ?_⟩
    · show dp + 1 + 8 < _; omega
    · show un + 3 + 40 < _; omega
    intro r6 h6 tk6 od6 ex6 F6 N7 fr6 D6 hA6
    try dsimp only
    have fr6' : ∀ p ∈ ex6, s.heap.get? p.1 = none := fun p hp => there_of G' F5 (news_sub N6 (n' := (W.wd, od2) :: (W.lr, listOf W.vals.toArray W.n) :: (ex ++ ex2)) (by first | ktd_sub | fail)) (by first | kst_inAny | fail) (fr6 p hp)
    have hin : handedIn r6 = true := by obtain ⟨_, _, _, _, rfl, _⟩ := hA6; rfl
    clear N6 F5
    k_steps
    rename Fr g' _ _ _ => F9
    rename News g' _ _ _ => N9
    obtain ⟨Fa, Na⟩ := back F N G' F9 (news_sub N9 (n' := (W.wd, od6) :: (W.lr, listOf W.vals.toArray W.n) :: (ex ++ ex2 ++ ex6)) (by first | ktd_sub | fail))
    rw [List.append_assoc] at Na hA6
    have fr9 : ∀ p ∈ ex2 ++ ex6, s.heap.get? p.1 = none := fun p hp => (List.mem_append.mp hp).elim (fr2' p) (fr6' p)
    exact ret _ _ _ _ _ Fa Na fr9 (by rw [hi]; exact D6) (by rw [hi]; rfl)
  | false =>
    k_steps
    rename Fr g' _ _ _ => F9
    rename News g' _ _ _ => N9
    obtain ⟨Fa, Na⟩ := back F N G' F9 (news_sub N9 (n' := (W.wd, od2) :: (W.lr, listOf W.vals.toArray W.n) :: (ex ++ ex2)) (by first | ktd_sub | fail))
    exact ret _ _ _ _ ex2 Fa Na fr2' (by rw [hi]; exact D2) (by rw [hi]; rfl)
theorem due_expect_op {R : List Tk} {W : WA} {od : Obj} {ex : List (Addr × Obj)} {sp se : Nat} {x : Str} {nn : Nat} {t1 t2 t3 : Tok}
    (B : Below A₀ base outer h₀) (F : Fr h₀ L s.heap m) (X : (hd.heap_1 w.params).In h₀) (N : News h₀ L s.heap (wled W od ex)) (T : Top p loose mean mg mb h₀) (hk : cs.kind = .function) (hd : dp + 24 < 600) (hu : un + 200 < 2000)
    (D : WIs w sp se W od) (hR : WRow R W ex) (hok : ∀ t ∈ R, t.ok) (hle : sp ≤ se) (hse : se < 900) (hl : R.length ≤ 1000)
    (ret : ∀ r h' tk' od' ex', Fr h₀ L h' m → News h₀ L h' (wled W od' (ex ++ ex')) → (∀ p ∈ ex', s.heap.get? p.1 = none) → WIs w (if isTk "op" (tokAt R sp) x then sp + 1 else sp) (if isTk "op" (tokAt R sp) x then max se (sp + 1) else se) W od' → AnsIs (ex ++ ex') r (if isTk "op" (tokAt R sp) x then .none else errAns "unexpected_token" (tokAt R sp).at' x) → Q r { s with heap := h', toks := tk' }) :
    wpAny (model PySem.Challenge.rw_sj0029_01.row.prog w) (ktrTop dp un gd cn cs L a ccd cl outer) (call (.ref 236) [.ref W.wd, .str "expect_op" t1, .int nn t2, .str x t3]) Q E s := by
  have hrl : 600 < recursionLimit := by decide
  have hcl : 2000 < cLine := by decide
  refine wpAny_call ?_
  k_dflt cell_enter
  intro g' L' hh G' S' l' F' N' B' X' T'
  clear l'
  try dsimp only
  refine foldL F' ?_
  intro tk0 Ak mk F8
  k_fold
  k_steps
  rename Fr g' _ _ _ => F3
  rename News g' _ _ _ => N3
  refine ⟨at0_in (R := R) (W := W) (od := od) (ex := ex) (sp := sp) (se := se) (by assumption) F3 (by assumption) N3 (by assumption) rfl ?_ ?_ D hR (by omega) (by omega) hl ?_⟩
  · show dp + 1 + 4 < _; omega
  · show un + 3 + 20 < _; omega
  intro r h2 tk2 od2 ex2 F4 N4 fr2 D2 hA
  try dsimp only
  rw [Nat.max_eq_left hle] at D2
  have fr2' : ∀ p ∈ ex2, s.heap.get? p.1 = none := fun p hp => there_of G' F3 N3 (fun p hp => ⟨_, hp⟩) (fr2 p hp)
  have hR2 := hR.app N3 fr2
  obtain ⟨y, va, vb, vc, rfl, hm, ⟨u1, rfl⟩, hv, ⟨u3, rfl⟩⟩ := hA
  clear N3 F3
  have N5 := news_sub N4 (cons_in (.tail _ (.tail _ hm)) (l := (W.wd, od2) :: (W.lr, listOf W.vals.toArray W.n) :: (ex ++ ex2)) (by first | ktd_sub | fail))

  clear N4
  have once : Once := ⟨trivial⟩
  k_steps
  refine ⟨stood_eval (b := isTk "op" (tokAt R sp) x) ?_ fun tk5 => ?_⟩
  · clear ret once
    by_cases hkd : (tokAt R sp).kd = "op"
    · obtain ⟨z, hz⟩ := tokAt_ok hok sp (by simp [hkd])
      have hi : isTk "op" (tokAt R sp) x = (z == x) := by simp [isTk, hkd, hz]
      rw [hz] at hv
      have hk0 : ((tokAt R sp).kd == "op") = true := by simpa using hkd
      obtain ⟨tz, rfl⟩ := hv
      cases hb : z == x with
      | true =>
        k_steps
        exact stood_out (by first | exact hi.symm | (rw [hi]; exact hb) | (rw [hi]; exact hb.symm) | rw [hi, hb]) rfl
      | false =>
        k_steps
        exact stood_out (by first | exact hi.symm | (rw [hi]; exact hb) | (rw [hi]; exact hb.symm) | rw [hi, hb]) rfl
    · have hk0 : ((tokAt R sp).kd == "op") = false := by simpa using hkd
      have hi : isTk "op" (tokAt R sp) x = false := by simp [isTk, hk0]
      k_steps
      exact stood_out (by first | exact hi.symm | (rw [hi]; exact hk0) | rw [hi]) rfl
  cases hi : isTk "op" (tokAt R sp) x with
  | true =>
    k_steps
    rename Fr g' _ _ _ => F5
    rename News g' _ _ _ => N6
    refine ⟨step_in (R := R) (W := W) (od := od2) (ex := ex ++ ex2) (sp := sp) (se := se) (by assumption) F5 (by assumption) (news_sub N6 (by first | ktd_sub | fail)) (by assumption) rfl ?_ ?_ D2 hR2 hle (by omega) hl ?_⟩
    · show dp + 1 + 8 < _; omega
    · show un + 3 + 40 < _; omega
    intro r6 h6 tk6 od6 ex6 F6 N7 fr6 D6 hA6
    try dsimp only
    have fr6' : ∀ p ∈ ex6, s.heap.get? p.1 = none := fun p hp => there_of G' F5 (news_sub N6 (n' := (W.wd, od2) :: (W.lr, listOf W.vals.toArray W.n) :: (ex ++ ex2)) (by first | ktd_sub | fail)) (by first | kst_inAny | fail) (fr6 p hp)
    have hin : handedIn r6 = true := by obtain ⟨_, _, _, _, rfl, _⟩ := hA6; rfl
    clear N6 F5
    k_steps
    rename Fr g' _ _ _ => F9
    rename News g' _ _ _ => N9
    obtain ⟨Fa, Na⟩ := back F N G' F9 (news_sub N9 (n' := (W.wd, od6) :: (W.lr, listOf W.vals.toArray W.n) :: (ex ++ ex2 ++ ex6)) (by first | ktd_sub | fail))
    rw [List.append_assoc] at Na hA6
    have fr9 : ∀ p ∈ ex2 ++ ex6, s.heap.get? p.1 = none := fun p hp => (List.mem_append.mp hp).elim (fr2' p) (fr6' p)
    exact ret _ _ _ _ _ Fa Na fr9 (by rw [hi]; exact D6) (by rw [hi]; rfl)
  | false =>
    k_steps
    rename Fr g' _ _ _ => F9
    rename News g' _ _ _ => N9
    rename @LT.lt Nat _ y _ ∧ _ => l1
    have fz := fresh_of G' N9 (.head _) (by
      intro p hp e
      rcases List.mem_cons.mp hp with rfl | hp
      · exact Nat.ne_of_lt l1.2.1 e
      rcases List.mem_cons.mp hp with rfl | hp
      · exact Nat.ne_of_lt l1.2.2.1 e
      · exact Nat.ne_of_lt (allLt_mem l1.2.2.2 p (List.mem_append_left _ hp)) e)
    obtain ⟨Fa, Na⟩ := back F N G' F9 (news_sub N9 (n' := (W.wd, od2) :: (W.lr, listOf W.vals.toArray W.n) :: (ex ++ (ex2 ++ [(_, _)]))) (by first | ktd_sub | fail))
    exact ret _ _ _ _ _ Fa Na (fun p hp => (List.mem_append.mp hp).elim (fr2' p) fun hp => by cases List.mem_singleton.mp hp; exact fz) (by rw [hi]; exact D2) (by rw [hi]; exact ⟨_, _, _, _, rfl, List.mem_append_right _ (List.mem_append_right _ (.head _)), ⟨_, rfl⟩, ⟨_, rfl⟩, ⟨_, rfl⟩⟩)
theorem due_expect_key {R : List Tk} {W : WA} {od : Obj} {ex : List (Addr × Obj)} {sp se : Nat} {x : Str} {nn : Nat} {t1 t2 t3 : Tok}
    (B : Below A₀ base outer h₀) (F : Fr h₀ L s.heap m) (X : (hd.heap_1 w.params).In h₀) (N : News h₀ L s.heap (wled W od ex)) (T : Top p loose mean mg mb h₀) (hk : cs.kind = .function) (hd : dp + 24 < 600) (hu : un + 200 < 2000)
    (D : WIs w sp se W od) (hR : WRow R W ex) (hok : ∀ t ∈ R, t.ok) (hle : sp ≤ se) (hse : se < 900) (hl : R.length ≤ 1000)
    (ret : ∀ r h' tk' od' ex', Fr h₀ L h' m → News h₀ L h' (wled W od' (ex ++ ex')) → (∀ p ∈ ex', s.heap.get? p.1 = none) → WIs w (if isTk "key" (tokAt R sp) x then sp + 1 else sp) (if isTk "key" (tokAt R sp) x then max se (sp + 1) else se) W od' → AnsIs (ex ++ ex') r (if isTk "key" (tokAt R sp) x then .none else errAns "unexpected_token" (tokAt R sp).at' x) → Q r { s with heap := h', toks := tk' }) :
    wpAny (model PySem.Challenge.rw_sj0029_01.row.prog w) (ktrTop dp un gd cn cs L a ccd cl outer) (call (.ref 236) [.ref W.wd, .str "expect_key" t1, .int nn t2, .str x t3]) Q E s := by
  have hrl : 600 < recursionLimit := by decide
  have hcl : 2000 < cLine := by decide
  refine wpAny_call ?_
  k_dflt cell_enter
  intro g' L' hh G' S' l' F' N' B' X' T'
  clear l'
  try dsimp only
  refine foldL F' ?_
  intro tk0 Ak mk F8
  k_fold
  k_steps
  rename Fr g' _ _ _ => F3
  rename News g' _ _ _ => N3
  refine ⟨at0_in (R := R) (W := W) (od := od) (ex := ex) (sp := sp) (se := se) (by assumption) F3 (by assumption) N3 (by assumption) rfl ?_ ?_ D hR (by omega) (by omega) hl ?_⟩
  · show dp + 1 + 4 < _; omega
  · show un + 3 + 20 < _; omega
  intro r h2 tk2 od2 ex2 F4 N4 fr2 D2 hA
  try dsimp only
  rw [Nat.max_eq_left hle] at D2
  have fr2' : ∀ p ∈ ex2, s.heap.get? p.1 = none := fun p hp => there_of G' F3 N3 (fun p hp => ⟨_, hp⟩) (fr2 p hp)
  have hR2 := hR.app N3 fr2
  obtain ⟨y, va, vb, vc, rfl, hm, ⟨u1, rfl⟩, hv, ⟨u3, rfl⟩⟩ := hA
  clear N3 F3
  have N5 := news_sub N4 (cons_in (.tail _ (.tail _ hm)) (l := (W.wd, od2) :: (W.lr, listOf W.vals.toArray W.n) :: (ex ++ ex2)) (by first | ktd_sub | fail))

  clear N4
  have once : Once := ⟨trivial⟩
  k_steps
  refine ⟨stood_eval (b := isTk "key" (tokAt R sp) x) ?_ fun tk5 => ?_⟩
  · clear ret once
    by_cases hkd : (tokAt R sp).kd = "key"
    · obtain ⟨z, hz⟩ := tokAt_ok hok sp (by simp [hkd])
      have hi : isTk "key" (tokAt R sp) x = (z == x) := by simp [isTk, hkd, hz]
      rw [hz] at hv
      have hk0 : ((tokAt R sp).kd == "key") = true := by simpa using hkd
      obtain ⟨tz, rfl⟩ := hv
      cases hb : z == x with
      | true =>
        k_steps
        exact stood_out (by first | exact hi.symm | (rw [hi]; exact hb) | (rw [hi]; exact hb.symm) | rw [hi, hb]) rfl
      | false =>
        k_steps
        exact stood_out (by first | exact hi.symm | (rw [hi]; exact hb) | (rw [hi]; exact hb.symm) | rw [hi, hb]) rfl
    · have hk0 : ((tokAt R sp).kd == "key") = false := by simpa using hkd
      have hi : isTk "key" (tokAt R sp) x = false := by simp [isTk, hk0]
      k_steps
      exact stood_out (by first | exact hi.symm | (rw [hi]; exact hk0) | rw [hi]) rfl
  cases hi : isTk "key" (tokAt R sp) x with
  | true =>
    k_steps
    rename Fr g' _ _ _ => F5
    rename News g' _ _ _ => N6
    refine ⟨step_in (R := R) (W := W) (od := od2) (ex := ex ++ ex2) (sp := sp) (se := se) (by assumption) F5 (by assumption) (news_sub N6 (by first | ktd_sub | fail)) (by assumption) rfl ?_ ?_ D2 hR2 hle (by omega) hl ?_⟩
    · show dp + 1 + 8 < _; omega
    · show un + 3 + 40 < _; omega
    intro r6 h6 tk6 od6 ex6 F6 N7 fr6 D6 hA6
    try dsimp only
    have fr6' : ∀ p ∈ ex6, s.heap.get? p.1 = none := fun p hp => there_of G' F5 (news_sub N6 (n' := (W.wd, od2) :: (W.lr, listOf W.vals.toArray W.n) :: (ex ++ ex2)) (by first | ktd_sub | fail)) (by first | kst_inAny | fail) (fr6 p hp)
    have hin : handedIn r6 = true := by obtain ⟨_, _, _, _, rfl, _⟩ := hA6; rfl
    clear N6 F5
    k_steps
    rename Fr g' _ _ _ => F9
    rename News g' _ _ _ => N9
    obtain ⟨Fa, Na⟩ := back F N G' F9 (news_sub N9 (n' := (W.wd, od6) :: (W.lr, listOf W.vals.toArray W.n) :: (ex ++ ex2 ++ ex6)) (by first | ktd_sub | fail))
    rw [List.append_assoc] at Na hA6
    have fr9 : ∀ p ∈ ex2 ++ ex6, s.heap.get? p.1 = none := fun p hp => (List.mem_append.mp hp).elim (fr2' p) (fr6' p)
    exact ret _ _ _ _ _ Fa Na fr9 (by rw [hi]; exact D6) (by rw [hi]; rfl)
  | false =>
    k_steps
    rename Fr g' _ _ _ => F9
    rename News g' _ _ _ => N9
    rename @LT.lt Nat _ y _ ∧ _ => l1
    have fz := fresh_of G' N9 (.head _) (by
      intro p hp e
      rcases List.mem_cons.mp hp with rfl | hp
      · exact Nat.ne_of_lt l1.2.1 e
      rcases List.mem_cons.mp hp with rfl | hp
      · exact Nat.ne_of_lt l1.2.2.1 e
      · exact Nat.ne_of_lt (allLt_mem l1.2.2.2 p (List.mem_append_left _ hp)) e)
    obtain ⟨Fa, Na⟩ := back F N G' F9 (news_sub N9 (n' := (W.wd, od2) :: (W.lr, listOf W.vals.toArray W.n) :: (ex ++ (ex2 ++ [(_, _)]))) (by first | ktd_sub | fail))
    exact ret _ _ _ _ _ Fa Na (fun p hp => (List.mem_append.mp hp).elim (fr2' p) fun hp => by cases List.mem_singleton.mp hp; exact fz) (by rw [hi]; exact D2) (by rw [hi]; exact ⟨_, _, _, _, rfl, List.mem_append_right _ (List.mem_append_right _ (.head _)), ⟨_, rfl⟩, ⟨_, rfl⟩, ⟨_, rfl⟩⟩)
theorem due_expect_id {R : List Tk} {W : WA} {od : Obj} {ex : List (Addr × Obj)} {sp se : Nat} {x : Str} {nn : Nat} {t1 t2 t3 : Tok}
    (B : Below A₀ base outer h₀) (F : Fr h₀ L s.heap m) (X : (hd.heap_1 w.params).In h₀) (N : News h₀ L s.heap (wled W od ex)) (T : Top p loose mean mg mb h₀) (hk : cs.kind = .function) (hd : dp + 24 < 600) (hu : un + 200 < 2000)
    (D : WIs w sp se W od) (hR : WRow R W ex) (hok : ∀ t ∈ R, t.ok) (hle : sp ≤ se) (hse : se < 900) (hl : R.length ≤ 1000)
    (ret : ∀ r h' tk' od' ex', Fr h₀ L h' m → News h₀ L h' (wled W od' (ex ++ ex')) → (∀ p ∈ ex', s.heap.get? p.1 = none) → WIs w (if (tokAt R sp).kd = "id" then sp + 1 else sp) (if (tokAt R sp).kd = "id" then max se (sp + 1) else se) W od' → AnsIs (ex ++ ex') r (if (tokAt R sp).kd = "id" then .one (tokAt R sp).val.dt else errAns "unexpected_token" (tokAt R sp).at' "name") → Q r { s with heap := h', toks := tk' }) :
    wpAny (model PySem.Challenge.rw_sj0029_01.row.prog w) (ktrTop dp un gd cn cs L a ccd cl outer) (call (.ref 236) [.ref W.wd, .str "expect_id" t1, .int nn t2, .str x t3]) Q E s := by
  have hrl : 600 < recursionLimit := by decide
  have hcl : 2000 < cLine := by decide
  refine wpAny_call ?_
  k_dflt cell_enter
  intro g' L' hh G' S' l' F' N' B' X' T'
  clear l'
  try dsimp only
  refine foldL F' ?_
  intro tk0 Ak mk F8
  k_fold
  k_steps
  rename Fr g' _ _ _ => F3
  rename News g' _ _ _ => N3
  refine ⟨at0_in (R := R) (W := W) (od := od) (ex := ex) (sp := sp) (se := se) (by assumption) F3 (by assumption) N3 (by assumption) rfl ?_ ?_ D hR (by omega) (by omega) hl ?_⟩
  · show dp + 1 + 4 < _; omega
  · show un + 3 + 20 < _; omega
  intro r h2 tk2 od2 ex2 F4 N4 fr2 D2 hA
  try dsimp only
  rw [Nat.max_eq_left hle] at D2
  have fr2' : ∀ p ∈ ex2, s.heap.get? p.1 = none := fun p hp => there_of G' F3 N3 (fun p hp => ⟨_, hp⟩) (fr2 p hp)
  have hR2 := hR.app N3 fr2
  obtain ⟨y, va, vb, vc, rfl, hm, ⟨u1, rfl⟩, hv, ⟨u3, rfl⟩⟩ := hA
  clear N3 F3
  have N5 := news_sub N4 (cons_in (.tail _ (.tail _ hm)) (l := (W.wd, od2) :: (W.lr, listOf W.vals.toArray W.n) :: (ex ++ ex2)) (by first | ktd_sub | fail))

  clear N4
  have once : Once := ⟨trivial⟩
  k_steps
  refine ⟨stood_eval (b := (tokAt R sp).kd == "id") ?_ fun tk5 => ?_⟩
  · clear ret once
    by_cases hkd : (tokAt R sp).kd = "id"
    · obtain ⟨z, hz⟩ := tokAt_ok hok sp (by simp [hkd])
      rw [hz] at hv
      have hk0 : ((tokAt R sp).kd == "id") = true := by simpa using hkd
      obtain ⟨tz, rfl⟩ := hv
      cases hb : z == x with
      | true =>
        k_steps
        exact stood_out (by first | rfl | (rw [hk0]; exact hb) | rw [hk0, hb] | exact hk0.symm) rfl
      | false =>
        k_steps
        exact stood_out (by first | rfl | (rw [hk0]; exact hb) | rw [hk0, hb] | exact hk0.symm) rfl
    · have hk0 : ((tokAt R sp).kd == "id") = false := by simpa using hkd
      k_steps
      exact stood_out (by first | rfl | exact hk0.symm) rfl
  have hin : handedIn vb = true := by cases q : (tokAt R sp).val with | s z => (rw [q] at hv; obtain ⟨_, rfl⟩ := hv; rfl) | r z => (rw [q] at hv; cases hv; rfl)
  by_cases hkd : (tokAt R sp).kd = "id"
  · have hk0 : ((tokAt R sp).kd == "id") = true := by simpa using hkd
    rw [hk0]
    k_steps
    rename Fr g' _ _ _ => F5
    rename News g' _ _ _ => N6
    refine ⟨step_in (R := R) (W := W) (od := od2) (ex := ex ++ ex2) (sp := sp) (se := se) (by assumption) F5 (by assumption) (news_sub N6 (by first | ktd_sub | fail)) (by assumption) rfl ?_ ?_ D2 hR2 hle (by omega) hl ?_⟩
    · show dp + 1 + 8 < _; omega
    · show un + 3 + 40 < _; omega
    intro r6 h6 tk6 od6 ex6 F6 N7 fr6 D6 hA6
    try dsimp only
    have fr6' : ∀ p ∈ ex6, s.heap.get? p.1 = none := fun p hp => there_of G' F5 (news_sub N6 (n' := (W.wd, od2) :: (W.lr, listOf W.vals.toArray W.n) :: (ex ++ ex2)) (by first | ktd_sub | fail)) (by first | kst_inAny | fail) (fr6 p hp)
    have hin : handedIn r6 = true := by obtain ⟨_, _, _, _, rfl, _⟩ := hA6; rfl
    clear N6 F5
    k_steps
    rename Fr g' _ _ _ => F9
    rename News g' _ _ _ => N9
    obtain ⟨Fa, Na⟩ := back F N G' F9 (news_sub N9 (n' := (W.wd, od6) :: (W.lr, listOf W.vals.toArray W.n) :: (ex ++ ex2 ++ ex6)) (by first | ktd_sub | fail))
    rw [List.append_assoc] at Na hA6
    have fr9 : ∀ p ∈ ex2 ++ ex6, s.heap.get? p.1 = none := fun p hp => (List.mem_append.mp hp).elim (fr2' p) (fr6' p)
    exact ret _ _ _ _ _ Fa Na fr9 (by rw [if_pos hkd, if_pos hkd]; exact D6) (by rw [if_pos hkd]; exact hv)
  · have hk0 : ((tokAt R sp).kd == "id") = false := by simpa using hkd
    rw [hk0]
    k_steps
    rename Fr g' _ _ _ => F9
    rename News g' _ _ _ => N9
    rename @LT.lt Nat _ y _ ∧ _ => l1
    have fz := fresh_of G' N9 (.head _) (by
      intro p hp e
      rcases List.mem_cons.mp hp with rfl | hp
      · exact Nat.ne_of_lt l1.2.1 e
      rcases List.mem_cons.mp hp with rfl | hp
      · exact Nat.ne_of_lt l1.2.2.1 e
      · exact Nat.ne_of_lt (allLt_mem l1.2.2.2 p (List.mem_append_left _ hp)) e)
    obtain ⟨Fa, Na⟩ := back F N G' F9 (news_sub N9 (n' := (W.wd, od2) :: (W.lr, listOf W.vals.toArray W.n) :: (ex ++ (ex2 ++ [(_, _)]))) (by first | ktd_sub | fail))
    exact ret _ _ _ _ _ Fa Na (fun p hp => (List.mem_append.mp hp).elim (fr2' p) fun hp => by cases List.mem_singleton.mp hp; exact fz) (by rw [if_neg hkd, if_neg hkd]; exact D2) (by rw [if_neg hkd]; exact ⟨_, _, _, _, rfl, List.mem_append_right _ (List.mem_append_right _ (.head _)), ⟨_, rfl⟩, ⟨_, rfl⟩, ⟨_, rfl⟩⟩)
theorem due_fail {R : List Tk} {W : WA} {od : Obj} {ex : List (Addr × Obj)} {sp se : Nat} {x : Str} {nn : Nat} {t1 t2 t3 : Tok}
    (B : Below A₀ base outer h₀) (F : Fr h₀ L s.heap m) (X : (hd.heap_1 w.params).In h₀) (N : News h₀ L s.heap (wled W od ex)) (T : Top p loose mean mg mb h₀) (hk : cs.kind = .function) (hd : dp + 24 < 600) (hu : un + 200 < 2000)
    (D : WIs w sp se W od) (hR : WRow R W ex) (hok : ∀ t ∈ R, t.ok) (hle : sp ≤ se) (hse : se < 900) (hl : R.length ≤ 1000)
    (ret : ∀ r h' tk' od' ex', Fr h₀ L h' m → News h₀ L h' (wled W od' (ex ++ ex')) → (∀ p ∈ ex', s.heap.get? p.1 = none) → WIs w sp se W od' → AnsIs (ex ++ ex') r (errAns "odd_thing" (tokAt R sp).at' x) → Q r { s with heap := h', toks := tk' }) :
    wpAny (model PySem.Challenge.rw_sj0029_01.row.prog w) (ktrTop dp un gd cn cs L a ccd cl outer) (call (.ref 236) [.ref W.wd, .str "fail" t1, .int nn t2, .str x t3]) Q E s := by
  have hrl : 600 < recursionLimit := by decide
  have hcl : 2000 < cLine := by decide
  refine wpAny_call ?_
  k_dflt cell_enter
  intro g' L' hh G' S' l' F' N' B' X' T'
  clear l'
  try dsimp only
  refine foldL F' ?_
  intro tk0 Ak mk F8
  k_fold
  k_steps
  rename Fr g' _ _ _ => F3
  rename News g' _ _ _ => N3
  refine ⟨at0_in (R := R) (W := W) (od := od) (ex := ex) (sp := sp) (se := se) (by assumption) F3 (by assumption) N3 (by assumption) rfl ?_ ?_ D hR (by omega) (by omega) hl ?_⟩
  · show dp + 1 + 4 < _; omega
  · show un + 3 + 20 < _; omega
  intro r h2 tk2 od2 ex2 F4 N4 fr2 D2 hA
  try dsimp only
  rw [Nat.max_eq_left hle] at D2
  have fr2' : ∀ p ∈ ex2, s.heap.get? p.1 = none := fun p hp => there_of G' F3 N3 (fun p hp => ⟨_, hp⟩) (fr2 p hp)
  have hR2 := hR.app N3 fr2
  obtain ⟨y, va, vb, vc, rfl, hm, ⟨u1, rfl⟩, hv, ⟨u3, rfl⟩⟩ := hA
  clear N3 F3
  have N5 := news_sub N4 (cons_in (.tail _ (.tail _ hm)) (l := (W.wd, od2) :: (W.lr, listOf W.vals.toArray W.n) :: (ex ++ ex2)) (by first | ktd_sub | fail))

  clear N4
  have once : Once := ⟨trivial⟩
  k_steps
  refine ⟨stood_eval (b := isTk "key" (tokAt R sp) x) ?_ fun tk5 => ?_⟩
  · clear ret once
    by_cases hkd : (tokAt R sp).kd = "key"
    · obtain ⟨z, hz⟩ := tokAt_ok hok sp (by simp [hkd])
      have hi : isTk "key" (tokAt R sp) x = (z == x) := by simp [isTk, hkd, hz]
      rw [hz] at hv
      have hk0 : ((tokAt R sp).kd == "key") = true := by simpa using hkd
      obtain ⟨tz, rfl⟩ := hv
      cases hb : z == x with
      | true =>
        k_steps
        exact stood_out (by first | exact hi.symm | (rw [hi]; exact hb) | (rw [hi]; exact hb.symm) | rw [hi, hb]) rfl
      | false =>
        k_steps
        exact stood_out (by first | exact hi.symm | (rw [hi]; exact hb) | (rw [hi]; exact hb.symm) | rw [hi, hb]) rfl
    · have hk0 : ((tokAt R sp).kd == "key") = false := by simpa using hkd
      have hi : isTk "key" (tokAt R sp) x = false := by simp [isTk, hk0]
      k_steps
      exact stood_out (by first | exact hi.symm | (rw [hi]; exact hk0) | rw [hi]) rfl
  k_steps
  rename Fr g' _ _ _ => F9
  rename News g' _ _ _ => N9
  rename @LT.lt Nat _ y _ ∧ _ => l1
  have fz := fresh_of G' N9 (.head _) (by
    intro p hp e
    rcases List.mem_cons.mp hp with rfl | hp
    · exact Nat.ne_of_lt l1.2.1 e
    rcases List.mem_cons.mp hp with rfl | hp
    · exact Nat.ne_of_lt l1.2.2.1 e
    · exact Nat.ne_of_lt (allLt_mem l1.2.2.2 p (List.mem_append_left _ hp)) e)
  obtain ⟨Fa, Na⟩ := back F N G' F9 (news_sub N9 (n' := (W.wd, od2) :: (W.lr, listOf W.vals.toArray W.n) :: (ex ++ (ex2 ++ [(_, _)]))) (by first | ktd_sub | fail))
  exact ret _ _ _ _ _ Fa Na (fun p hp => (List.mem_append.mp hp).elim (fr2' p) fun hp => by cases List.mem_singleton.mp hp; exact fz) D2 ⟨_, _, _, _, rfl, List.mem_append_right _ (List.mem_append_right _ (.head _)), ⟨_, rfl⟩, ⟨_, rfl⟩, ⟨_, rfl⟩⟩
end
section
variable {prog : Program} {w : World} {A : Around} {E : Value → Shared → Prop} {s : Shared} {h₀ : Heap} {L t sl : Addr} {m : Str → Option Value} {news : List (Addr × Obj)} {x y z : Value} {u : Tok} {Q : Value → Shared → Prop}
theorem tup_two (ht : IsTup s.heap t [x, y, z].toArray) (hs : s.heap.IsSliceOf sl .none (.int 2 u) .none)
    (h : Q (.ref s.heap.objs.size) { s with heap := s.heap.push { cls := .type "tuple", data := .seq [x, y].toArray } }) : wpAny (model prog w) A (getItem (.ref t) (.ref sl)) Q E s := by
  obtain ⟨os, hos, hcs, hds⟩ := hs
  have hT : s.TypeIs (.ref sl) "slice" := ⟨os, hos, hcs⟩
  unfold getItem
  try with_reducible refine wpAny_holding ?_
  first | refine wpAny_bind (wpAny_pure ?_) | skip
  refine wpAny_bind (wpAny_sequenceKey ht.typeIs (by decide) ?_)
  refine wpAny_bind (wpAny_callSpecial?_slot (name := Str.ofString "__getitem__") ht.typeIs slot_tuple_getitem (wpAny_call_entry slot_tuple_getitem ht.typeIs entry_tuple_getitem ?_ (args_tuple_getitem _ _)))
  show wpAny _ _ (Builtin.Tuple.tupleItemsOf (.ref t) >>= _) _ _ s
  refine wpAny_bind (tupleItemsOf_ ht (wpAny_bind (wpAny_typeOf hT ?_)))
  rw [if_pos (by decide)]
  refine wpAny_bind ?_
  unfold Builtin.Slice.sliceApplied Builtin.Slice.sliceFields
  repeat (first | with_reducible refine wpAny_bind ?_ | with_reducible refine wpAny_field hos hds (x := .none) rfl ?_ | with_reducible refine wpAny_field hos hds (x := .int 2 u) rfl ?_ | with_reducible refine slicePart_none ?_ | with_reducible refine slicePart_int ?_ | with_reducible refine wpAny_pure ?_ | wp_step)
  exact ⟨_, rfl, wpAny_pure h⟩
theorem two_K {value slice : Expr} {n : Nat} (F : Fr h₀ L s.heap m) (N : News h₀ L s.heap news) (hm : (t, { cls := .type "tuple", data := .seq [x, y, z].toArray n }) ∈ news)
    (h : ∀ D h', Fr h₀ L h' m → News h₀ L h' ((D, { cls := .type "tuple", data := .seq [x, y].toArray }) :: news) → (∀ p ∈ news, p.1 < D) → Q (.ref D) { s with heap := h' })
    (hs : subscripted slice false (.ref t) (.ref s.heap.objs.size) = operate [.ref s.heap.objs.size, .ref t] (getItem (.ref t) (.ref s.heap.objs.size))) (hg : ∀ r, letTemporaryGo value (.ref t) r = pure ()) :
    wpAny (model prog w) A (subscriptTail value slice (.ref t) (.ref s.heap.objs.size)) Q E { s with heap := s.heap.push { cls := .type "slice", data := .fields #[.none, .int 2 u, .none] } } := by
  have F1 := F.push { cls := .type "slice", data := .fields #[.none, .int 2 u, .none] }
  have N1 := N.grown (h' := s.heap.push { cls := .type "slice", data := .fields #[.none, .int 2 u, .none] }) fun _ _ e => Heap.get?_push_of_some _ e
  have ht : IsTup (s.heap.push { cls := .type "slice", data := .fields #[.none, .int 2 u, .none] }) t [x, y, z].toArray := ⟨_, (N1 _ hm).1, rfl, ⟨_, rfl⟩⟩
  refine subscriptTail_ops (s := { s with heap := s.heap.push { cls := .type "slice", data := .fields #[.none, .int 2 u, .none] } }) ht.typeIs slot_tuple_getitem.lookup (tup_two ht (Heap.IsSliceOf.new ..) ?_) hs hg
  have N2 := News.push F1 N1 { cls := .type "tuple", data := .seq [x, y].toArray }
  exact h _ _ (F1.push _) N2 fun p hp => Heap.lt_size (N1 p hp).1
end
def StoodH (g : Heap) (L : Addr) (m : Str → Option Value) (news : List (Addr × Obj)) (b : Bool) (s : Shared) (v : Value) (s' : Shared) : Prop := ∃ h' tk', v = .bool b ∧ s' = { s with heap := h', toks := tk' } ∧ Fr g L h' m ∧ News g L h' news
theorem stoodH_eval {M : Model} {A : Around} {E : Value → Shared → Prop} {t : Sem Value} {b : Bool} {Q : Value → Shared → Prop} {s : Shared} {g : Heap} {L : Addr} {m : Str → Option Value} {news : List (Addr × Obj)} (_ : Fr g L s.heap m) (_ : News g L s.heap news) (h : wpAny M A t (StoodH g L m news b s) E s)
    (k : ∀ h' tk', Fr g L h' m → News g L h' news → Q (.bool b) { s with heap := h', toks := tk' }) : wpAny M A t Q E s :=
  wpAny_mono h (fun v s' ⟨h', tk', hv, hs, F, N⟩ => by rw [hv, hs]; exact k h' tk' F N) fun _ _ z => z
theorem stoodH_out {b b' : Bool} {s s' : Shared} {h : Heap} {tk : Tok} {g : Heap} {L : Addr} {m : Str → Option Value} {news : List (Addr × Obj)} (e : b' = b) (h1 : s' = { s with heap := h, toks := tk }) (F : Fr g L h m) (N : News g L h news) : StoodH g L m news b s (.bool b') s' := ⟨h, tk, by rw [e], h1, F, N⟩
def numD : PyData := .tuple [.str "", .str "", .bool true, .str "1"]
def Dt.pd : Dt → PyData
  | .s x => .str x
  | .r _ => numD
  | .i n => .int n
def Ans.pd : Ans → PyData
  | .tup a b c => .tuple [a.pd, b.pd, c.pd]
  | .bool b => .bool b
  | .none => .none
  | .one d => d.pd
-- data that a comparison reads
def Dt.good (ex : List (Addr × Obj)) : Dt → Prop
  | .s x => PyData.strOk x = true
  | .r a => ∃ t1 t2 t3, (a, ({ cls := .type "tuple", data := .seq [.str "" t1, .str "" t2, .bool true, .str "1" t3].toArray } : Obj)) ∈ ex
  | .i _ => True
def Ans.good (ex : List (Addr × Obj)) : Ans → Prop
  | .tup a b c => a.good ex ∧ b.good ex ∧ c.good ex
  | .bool _ => True
  | .none => True
  | .one d => d.good ex
theorem Dt.good_mono {ex ex' : List (Addr × Obj)} {d : Dt} (h : d.good ex) (s : ∀ p ∈ ex, p ∈ ex') : d.good ex' := by
  cases d with
  | s x => exact h
  | r a => obtain ⟨t1, t2, t3, hm⟩ := h; exact ⟨t1, t2, t3, s _ hm⟩
  | i n => trivial
theorem dt_reads {h : Heap} {ex : List (Addr × Obj)} (N : ∀ p ∈ ex, h.get? p.1 = some p.2) {d : Dt} {v : Value} (hv : d.Is v) (g : d.good ex) : Reads h v d.pd [] := by
  cases d with
  | s x => obtain ⟨t, rfl⟩ := hv; exact .str _ _
  | r a =>
    obtain ⟨t1, t2, t3, hm⟩ := g
    cases hv
    exact reads_tuple_at (N _ hm) rfl rfl (.cons (.str _ _) (.cons (.str _ _) (.cons (.bool _) (.cons (.str _ _) .nil))))
  | i n => obtain ⟨t, rfl⟩ := hv; exact .int _ _
theorem ans_reads {h : Heap} {ex : List (Addr × Obj)} (N : ∀ p ∈ ex, h.get? p.1 = some p.2) {a : Ans} {v : Value} (hv : AnsIs ex v a) (g : a.good ex) : Reads h v a.pd [] := by
  cases a with
  | tup a b c =>
    obtain ⟨y, va, vb, vc, rfl, hm, ha, hb, hc⟩ := hv
    exact reads_tuple_at (N _ hm) rfl rfl (.cons (dt_reads N ha g.1) (.cons (dt_reads N hb g.2.1) (.cons (dt_reads N hc g.2.2) .nil)))
  | bool b => cases hv; exact .bool _
  | none => cases hv; exact .none
  | one d => exact dt_reads N hv g
theorem dt_lay {ex : List (Addr × Obj)} {d : Dt} (g : d.good ex) : d.pd.canLay0 = true ∧ d.pd.depth ≤ 2 := by
  cases d with
  | s x => exact ⟨by unfold Dt.pd; rw [PyData.canLay0]; exact g, by simp [Dt.pd, PyData.depth]⟩
  | r a => exact ⟨by show numD.canLay0 = true; simp only [numD, PyData.canLay0, PyData.canLayAll0]; decide +kernel, by show numD.depth ≤ 2; simp [numD, PyData.depth, PyData.depthAll]⟩
  | i n => exact ⟨rfl, by simp [Dt.pd, PyData.depth]⟩
theorem ans_shaped {ex : List (Addr × Obj)} {a : Ans} (g : a.good ex) : SeqAt.shaped a.pd = true := by
  cases a with
  | tup a b c =>
    have h1 := dt_lay g.1
    have h2 := dt_lay g.2.1
    have h3 := dt_lay g.2.2
    simp only [SeqAt.shaped, Ans.pd, PyData.canLay0, PyData.canLayAll0, PyData.depth, PyData.depthAll, h1.1, h2.1, h3.1, Bool.and_true, Bool.true_and, decide_eq_true_eq]
    omega
  | bool b => simp [SeqAt.shaped, Ans.pd, PyData.canLay0, PyData.depth]
  | none => simp [SeqAt.shaped, Ans.pd, PyData.canLay0, PyData.depth]
  | one d =>
    have h1 := dt_lay g
    simp only [SeqAt.shaped, Ans.pd, h1.1, Bool.true_and]
    exact decide_eq_true (by omega)
theorem dt_eqv (d : Dt) : PyData.eqv d.pd d.pd = true := by
  cases d with
  | s x => simp [Dt.pd, PyData.eqv]
  | r a => show PyData.eqv numD numD = true; simp [numD, PyData.eqv, PyData.eqvAll]
  | i n => simp [Dt.pd, PyData.eqv]
theorem ans_eqv (a : Ans) : PyData.eqv a.pd a.pd = true := by
  cases a with
  | tup a b c => simp [Ans.pd, PyData.eqv, PyData.eqvAll, dt_eqv]
  | bool b => simp [Ans.pd, PyData.eqv]
  | none => simp [Ans.pd, PyData.eqv]
  | one d => exact dt_eqv d
theorem Ans.good_mono {ex ex' : List (Addr × Obj)} {a : Ans} (h : a.good ex) (s : ∀ p ∈ ex, p ∈ ex') : a.good ex' := by
  cases a with
  | tup a b c => exact ⟨Dt.good_mono h.1 s, Dt.good_mono h.2.1 s, Dt.good_mono h.2.2 s⟩
  | bool b => trivial
  | none => trivial
  | one d => exact Dt.good_mono (d := d) h s
theorem eq_hash {prog : Program} {w : World} {A : Around} {E : Value → Shared → Prop} {s : Shared} {ex : List (Addr × Obj)} {t : Tk} {x y : Addr} {u u1 u2 : Tok} {vb : Value} {Q : Value → Shared → Prop} (N : ∀ p ∈ ex, s.heap.get? p.1 = some p.2) (g : t.ans.good ex)
    (hx : (x, ({ cls := .type "tuple", data := .seq [.str t.kd u, vb].toArray } : Obj)) ∈ ex) (hy : (y, ({ cls := .type "tuple", data := .seq [.str "op" u1, .str "#" u2].toArray } : Obj)) ∈ ex) (hb : t.val.dt.Is vb)
    (hun : A.units + 64 < cLine) (h : Q (.bool (hashTk t)) s) : wpAny (model prog w) A (compareOp .Eq (.ref x) (.ref y)) Q E s := by
  have e : PyData.eqv (.tuple [.str t.kd, t.val.dt.pd]) (.tuple [.str "op", .str "#"]) = hashTk t := by
    unfold hashTk
    cases t.val with
    | s z => simp [Vl.dt, Dt.pd, PyData.eqv, PyData.eqvAll]
    | r z => simp [Vl.dt, Dt.pd, numD, PyData.eqv, PyData.eqvAll]
  refine eq_dataH (reads_tuple_at (N _ hx) rfl rfl (.cons (.str _ _) (.cons (dt_reads N hb g.2.1) .nil))) (reads_tuple_at (N _ hy) rfl rfl (.cons (.str _ _) (.cons (.str _ _) .nil))) ?_ (by decide +kernel) hun (by rw [e]; exact h)
  have h1 := dt_lay (d := .s t.kd) g.1
  have h2 := dt_lay g.2.1
  have h3 : PyData.canLay0 (.str t.kd) = true := h1.1
  simp only [SeqAt.shaped, PyData.canLay0, PyData.canLayAll0, PyData.depth, PyData.depthAll, h2.1, Bool.and_true, Bool.true_and, Bool.and_eq_true, decide_eq_true_eq] at h3 ⊢
  have h4 : PyData.depth (.str t.kd) ≤ 2 := h1.2
  simp only [PyData.depth] at h4
  exact ⟨h3, decide_eq_true (by omega)⟩
-- two answers of one kind are told equal
theorem ne_ans {prog : Program} {w : World} {A : Around} {E : Value → Shared → Prop} {s : Shared} {ex : List (Addr × Obj)} {a : Ans} {u v : Value} {Q : Value → Shared → Prop} (N : ∀ p ∈ ex, s.heap.get? p.1 = some p.2) (hu : AnsIs ex u a) (hv : AnsIs ex v a) (g : a.good ex)
    (hun : A.units + 64 < cLine) (h : Q (.bool false) s) : wpAny (model prog w) A (compareOp .NotEq u v) Q E s :=
  ne_dataH (ans_reads N hu g) (ans_reads N hv g) (ans_shaped g) (ans_shaped g) hun (by rw [ans_eqv]; exact h)
theorem add_e (a b : List Value) : a.toArray.toList ++ b.toArray.toList = a ++ b := rfl
theorem rep1 (v : Value) : (List.replicate ((24 : Int).toNat) [v]).flatten = List.replicate 24 v := rfl
theorem row_more {R : List Tk} {vals : List Value} {ex ex' : List (Addr × Obj)} {z : Addr} {e1 e2 e3 : Tok} {g' h' : Heap} {L' : Addr} (_ : News g' L' h' ex') (hlen : vals.length = R.length) (hat : ∀ (i : Nat) (v : Value) (t : Tk), vals[i]? = some v → R[i]? = some t → AnsIs ex v t.ans)
    (hs : ∀ p ∈ ex, p ∈ ex') (hz : (z, tup3 (.str "eof" e1) (.str "" e2) (.int (-1) e3)) ∈ ex') (j : Nat) (hj : j < R.length + 24) : ∃ v, (vals ++ List.replicate 24 (.ref z))[j]? = some v ∧ AnsIs ex' v (tokAt R j).ans := by
  by_cases hlt : j < R.length
  · refine ⟨vals[j]'(by omega), by rw [List.getElem?_append_left (by omega), List.getElem?_eq_getElem], ?_⟩
    have := (hat j _ R[j] (List.getElem?_eq_getElem (by omega)) (List.getElem?_eq_getElem hlt)).mono hs
    unfold tokAt
    rw [List.getD_eq_getElem?_getD, List.getElem?_eq_getElem hlt]
    exact this
  · refine ⟨.ref z, by rw [List.getElem?_append_right (by omega), List.getElem?_replicate, if_pos (by omega)], ?_⟩
    unfold tokAt
    rw [List.getD_eq_getElem?_getD, List.getElem?_eq_none (by omega)]
    exact ⟨_, _, _, _, rfl, hz, ⟨_, rfl⟩, ⟨_, rfl⟩, ⟨_, rfl⟩⟩
section
variable {w : World} {dp un : Nat} {gd : Option (List Code)} {cn : Str} {cs : Scope} {a : Addr} {ccd : Value} {cl : List (Str × Addr)} {outer : List Env} {A₀ : Around} {base h₀ : Heap} {L : Addr} {m : Str → Option Value} {s : Shared} {E : Value → Shared → Prop}
  {p : Program} {loose : List Str} {mean : ExcName → Option Value} {mg mb : Str → Option Value} {Q : Value → Shared → Prop}
local macro_rules | `(tactic| walk_at "binaryOp Mult ref int") => `(tactic| (k_here; (with_reducible show wpAny _ _ (binaryOp Operator.Mult (Value.ref _) (Value.int 24 _)) _ _ _); k_dflt (refine' KMa.mul (vs := [_]) ?F ?N ?l ?lo ?hi ?z (rep1 _) ?_; (case F | N => k_asm); (case l => is_list); (case lo | hi => decide); (case z => exact Nat.le_of_ble_eq_true rfl); k_whole); intro D' h' F' N' l1; (try k_lt l1); (try k_sweep)))
local macro_rules | `(tactic| walk_at "binaryOp Add ref ref") => `(tactic| (k_here; (with_reducible show wpAny _ _ (binaryOp _ (Value.ref _) (Value.ref _)) _ _ _); k_dflt (refine' kmk_add_lit ?F ?N ?a ?b (add_e _ _) ?_ ?z; (case F | N => k_asm); (case a | b => exact News.isList (by k_asm) (by k_mem)); (case z => rw [sizeLine_eq]; simp only [List.toList_toArray, List.length_replicate]; omega); k_whole); intro D' h' F' N' l1; (try k_lt l1); (try k_sweep)))
local macro_rules | `(tactic| walk_at "subscriptTail") => `(tactic| (k_here; (with_reducible show wpAny _ _ (subscriptTail _ _ (Value.ref _) (Value.int _ _)) _ _ _); refine Hold.out ?_))
local macro_rules | `(tactic| walk_at "subscriptTail Name Slice ref ref") => `(tactic| (k_here; (with_reducible show wpAny _ _ (subscriptTail _ (PySem.Expr.Slice _ _ none _) (Value.ref _) (Value.ref _)) _ _ _); k_dflt (refine' two_K ?F ?N ?m ?_ ?s ?t; (case F | N => k_asm); (case m => k_mem); (case s => with_unfolding_all rfl); (case t => kmk_pure); k_whole); intro D' h' F' N' l1; (try k_lt l1); (try k_sweep)))
local macro_rules | `(tactic| walk_at "compareOp NotEq ref ref") => `(tactic| (k_here; refine Hold.out ?_))
local macro_rules | `(tactic| walk_at "compareOp Eq ref ref") => `(tactic| (k_here; refine Hold.out ?_))
local macro_rules | `(tactic| walk_at "eval BoolOp") => `(tactic| (k_here; (have z9 : Once := by assumption); clear z9; refine Hold.out ?_))
theorem stands_in {c : CA} {σ : CS} {R : List Tk} {W : WA} {od : Obj} {ex : List (Addr × Obj)} {sp se : Nat}
    (B : Below A₀ base outer h₀) (F : Fr h₀ L s.heap m) (X : (hd.heap_1 w.params).In h₀) (N : News h₀ L s.heap (led c σ (wled W od ex))) (T : Top p loose mean mg mb h₀) (hk : cs.kind = .function) (hd : dp + 24 < 600) (hu : un + 200 < 2000)
    (D : Rel R sp se c σ ex) (Dw : WIs w sp se W od) (hR : WRow R W ex) (hse : se < 24) (hg : ∀ j, (tokAt R j).ans.good ex)
    (ret : ∀ h' tk', Fr h₀ L h' m → News h₀ L h' (led c σ (wled W od ex)) → Q (.bool true) { s with heap := h', toks := tk' }) :
    wpAny (model PySem.Challenge.rw_sj0029_01.row.prog w) (ktrTop dp un gd cn cs L a ccd cl outer) (call (.ref 250) [.ref c.xc, .ref c.xs, .ref W.wd]) Q E s := by
  have hrl : 600 < recursionLimit := by decide
  have hcl : 2000 < cLine := by decide
  obtain ⟨y, dy, q', t1, vv, t3, hr, m1, m2, hv⟩ := D.tv
  have N1 := news_sub N (cons_in (in_led (.tail _ (.tail _ m1))) (cons_in (in_led (.tail _ (.tail _ m2))) (l := led c σ (wled W od ex)) (by first | ktd_sub | fail)))
  have hle := D.le
  have hin : handedIn vv = true := handed_val hv
  obtain ⟨xc, dc, la, xs, ds, lt, qs, qc, toks, n⟩ := c
  obtain ⟨hs, tv, i, ti, ah, na, pl, tp, b⟩ := σ
  have Di := D.i
  have hvl : W.vals.length ≤ 1000 := by have := hR.len; have := D.rl; omega
  have Db := D.b
  obtain ⟨wd, lr, vals, wn⟩ := W
  obtain ⟨v1, v2, hD⟩ := Dw
  obtain ⟨hlen, hat, hlr, hwd⟩ := hR
  dsimp only at *
  subst hr Di Db
  dsimp only [led, wled] at N N1
  refine wpAny_call ?_
  k_dflt cell_enter
  intro g' L' hh G' S' l' F' N' B' X' T'
  clear l'
  try dsimp only
  refine foldL F' ?_
  intro tk0 Ak mk F8
  k_fold
  k_steps
  rename Fr g' _ _ _ => F3
  rename News g' _ _ _ => N3
  obtain ⟨v, hv1, hA1⟩ := row_more N3 hlen hat (by first | ktd_sub | fail) (by first | k_mem | fail) sp (by omega)
  have hA2 := hA1
  obtain ⟨y2, va2, vb2, vc2, rfl, hm2, _⟩ := hA1
  refine ⟨item_lst (News.isList N3 (by first | k_mem | fail)) (by omega) (by omega) hv1 ?_⟩
  k_steps
  rename Fr g' _ _ _ => F4
  rename News g' _ _ _ => N4
  refine ⟨ne_ans (ex := _) (a := (tokAt R sp).ans) (fun p hp => (N4 p hp).1) ⟨_, _, _, _, rfl, .head _, ⟨_, rfl⟩, Vl.dt_is hv, ⟨_, rfl⟩⟩ hA2 ?_ ?_ ?_⟩
  · exact Ans.good_mono (hg sp) (by first | ktd_sub | fail)
  · k_units
  have hne1 : ((tokAt R sp).at' != (tokAt R sp).at') = false := by simp
  have once : Once := ⟨trivial⟩
  k_steps
  clear once
  rename Fr g' _ _ _ => F5
  rename News g' _ _ _ => N5
  refine ⟨stoodH_eval (b := decide (0 < se) && hashTk (tokAt R (se - 1))) F5 N5 ?_ fun h6 tk6 F6 N6 => ?_⟩
  · clear ret hne1
    by_cases h0 : 0 < se
    · obtain ⟨v, hv3, hA3⟩ := row_more N5 hlen hat (by first | ktd_sub | fail) (by first | k_mem | fail) (((se : Int) - 1).toNat) (by omega)
      have e3 : ((se : Int) - 1).toNat = se - 1 := by omega
      rw [e3] at hA3
      obtain ⟨y3, va3, vb3, vc3, rfl, hm3, ⟨u3, rfl⟩, hb3, _⟩ := hA3
      have h00 : ((se : Int) > 0) := by omega
      have N6 := news_sub N5 (cons_in hm3 (by first | (exact fun _ h => h) | fail))
      clear N5 hm3 hA2 hm2 hv1
      k_steps
      rename Fr g' _ _ _ => F7
      rename News g' _ _ _ => N7
      refine ⟨item_lst (News.isList N7 (by first | k_mem | fail)) (by omega) (by omega) hv3 ?_⟩
      k_steps
      rename Fr g' _ _ _ => F8
      rename News g' _ _ _ => N8
      refine ⟨eq_hash (t := tokAt R (se - 1)) (fun p hp => (N8 p hp).1) (Ans.good_mono (hg (se - 1)) (by first | ktd_sub | fail)) (by first | k_mem | fail) (by first | k_mem | fail) hb3 (by k_units) ?_⟩
      exact stoodH_out (by rw [decide_eq_true h0, Bool.true_and]) rfl F8 (news_sub N8 (by first | ktd_sub | fail))
    · have h00 : ¬ ((se : Int) > 0) := by omega
      have h0d : decide (0 < se) = false := decide_eq_false h0
      k_steps
      exact stoodH_out (by rw [h0d, Bool.false_and]; first | rfl | exact h0d | exact decide_eq_false h00) rfl (by assumption) (by assumption)
  have hbb : ∀ b : Bool, (b == b) = true := fun b => by cases b <;> rfl
  k_steps
  rename Fr g' _ _ _ => F9
  rename News g' _ _ _ => N9
  obtain ⟨Fa, Na⟩ := back F N1 G' F9 (news_sub N9 (n' := (xc, _) :: (dc, _) :: (la, _) :: (xs, _) :: (ds, _) :: (lt, _) :: (wd, _) :: (lr, _) :: ex) (by first | ktd_sub | fail))
  rw [hbb]
  exact ret _ _ Fa Na
end
-- the feed: its places, and what stands there
structure FA where
  fa : Nat
  cl : Nat
structure FS where
  b : Int
  tb : Tok
  c : Int
  tc : Tok
  n : Nat
  vs : List Value
  ns : List Int
  nc : Nat
abbrev fled (f : FA) (φ : FS) (ex : List (Addr × Obj)) : List (Addr × Obj) := (f.fa, listOf [.ref f.cl, .int φ.b φ.tb, .int φ.c φ.tc].toArray φ.n) :: (f.cl, listOf φ.vs.toArray φ.nc) :: ex
structure FOk (f : FA) (φ : FS) (ex : List (Addr × Obj)) : Prop where
  iv : IntsAre φ.vs φ.ns
  len : φ.ns.length ≤ 40
  ne : f.fa ≠ f.cl
  a1 : ∀ p ∈ ex, p.1 ≠ f.fa
  a2 : ∀ p ∈ ex, p.1 ≠ f.cl
section
variable {w : World} {dp un : Nat} {gd : Option (List Code)} {cn : Str} {cs : Scope} {a : Addr} {ccd : Value} {cl : List (Str × Addr)} {outer : List Env} {A₀ : Around} {base h₀ : Heap} {L : Addr} {m : Str → Option Value} {s : Shared} {E : Value → Shared → Prop}
  {p : Program} {loose : List Str} {mean : ExcName → Option Value} {mg mb : Str → Option Value} {Q : Value → Shared → Prop}
theorem pick_in {f : FA} {φ : FS} {ex : List (Addr × Obj)} {many : Int} {t1 : Tok}
    (B : Below A₀ base outer h₀) (F : Fr h₀ L s.heap m) (X : (hd.heap_1 w.params).In h₀) (N : News h₀ L s.heap (fled f φ ex)) (T : Top p loose mean mg mb h₀) (hk : cs.kind = .function) (hd : dp + 4 < 600) (hu : un + 100 < 2000)
    (D : FOk f φ ex) (hm0 : 0 < many) (hm1 : many < 100)
    (ret : ∀ k t h' tk' φ', 0 ≤ k → k < many → Fr h₀ L h' m → News h₀ L h' (fled f φ' ex) → FOk f φ' ex → Q (.int k t) { s with heap := h', toks := tk' }) :
    wpAny (model PySem.Challenge.rw_sj0029_01.row.prog w) (ktrTop dp un gd cn cs L a ccd cl outer) (call (.ref 208) [.ref f.fa, .int many t1]) Q E s := by
  have hrl : 600 < recursionLimit := by decide
  have hcl : 2000 < cLine := by decide
  obtain ⟨fa, fl⟩ := f
  obtain ⟨b, tb, c, tc, n, vs, ns, nc⟩ := φ
  obtain ⟨hI, hL, e0, e1, e2⟩ := D
  dsimp only [fled] at *
  have d0 : Dif fa fl := ⟨e0⟩
  have hmn : many ≠ 0 := by omega
  have fin : ∀ (x k : Int) (t : Tok) (g' : Heap) (L' : Addr) (m2' : Str → Option Value) (h2 : Heap) (tk2 : Nat) (φ' : FS), (∀ z o, s.heap.get? z = some o → z ∉ ((fa, listOf [.ref fl, .int b tb, .int c tc].toArray n) :: (fl, listOf vs.toArray nc) :: ex).map (·.1) → g'.get? z = some o) →
      Fr g' L' h2 m2' → News g' L' h2 (fled ⟨fa, fl⟩ φ' ex) → IntsAre φ'.vs φ'.ns → φ'.ns.length ≤ 40 → k = x.fmod many → Q (.int k t) { s with heap := h2, toks := tk2 } := by
    intro x k t g' L' m2' h2 tk2 φ' G' F9 N9 hi hl hk'
    subst hk'
    obtain ⟨Fa, Na⟩ := back F N G' F9 N9
    exact ret _ _ _ _ φ' (Int.fmod_nonneg_of_pos _ hm0) (Int.fmod_lt_of_pos _ hm0) Fa Na ⟨hi, hl, e0, e1, e2⟩
  clear ret
  by_cases hb : b = 0
  · subst hb
    cases hI with
    | nil =>
      refine wpAny_call ?_
      k_dflt cell_enter
      intro g' L' hh G' S' l' F' N' B' X' T'
      clear l'
      try dsimp only
      k_fold
      k_steps
      rename Fr g' _ _ _ => F3
      rename News g' _ _ _ => N3
      exact fin _ _ _ _ _ _ _ _ ⟨_, _, _, _, _, [], [], _⟩ G' F3 (news_sub N3 (by first | ktd_sub | fail)) .nil (Nat.zero_le _) rfl
    | @cons v t vs ns r =>
      have hcc : decide (v :: ns = ([] : List Int)) = false := by simp
      have hz : (Value.int v t :: vs).length ≤ 40 := by have := r.length; simp only [List.length_cons] at hL ⊢; omega
      have hz1 : vs.length ≤ 40 := Nat.le_of_succ_le hz
      refine wpAny_call ?_
      k_dflt cell_enter
      intro g' L' hh G' S' l' F' N' B' X' T'
      clear l'
      try dsimp only
      k_fold
      k_steps
      rename Fr g' _ _ _ => F3
      rename News g' _ _ _ => N3
      exact fin _ _ _ _ _ _ _ _ ⟨_, _, _, _, _, vs, ns, _⟩ G' F3 (news_sub N3 (by first | ktd_sub | fail)) r (Nat.le_of_succ_le hL) rfl
  · have hb0 : (b == 0) = false := by simpa using hb
    refine wpAny_call ?_
    k_dflt cell_enter
    intro g' L' hh G' S' l' F' N' B' X' T'
    clear l'
    try dsimp only
    k_fold
    k_steps
    rename Fr g' _ _ _ => F3
    rename News g' _ _ _ => N3
    exact fin _ _ _ _ _ _ _ _ ⟨_, _, _, _, _, vs, ns, _⟩ G' F3 N3 hI hL rfl
end
section
variable {w : World} {dp un : Nat} {gd : Option (List Code)} {cn : Str} {cs : Scope} {a : Addr} {ccd : Value} {cl : List (Str × Addr)} {outer : List Env} {A₀ : Around} {base h₀ : Heap} {L : Addr} {m : Str → Option Value} {s : Shared} {E : Value → Shared → Prop}
  {p : Program} {loose : List Str} {mean : ExcName → Option Value} {mg mb : Str → Option Value} {Q : Value → Shared → Prop}
theorem feed_in {sa : Addr} {vs : List Value} {ns : List Int}
    (B : Below A₀ base outer h₀) (F : Fr h₀ L s.heap m) (X : (hd.heap_1 w.params).In h₀) (N : News h₀ L s.heap []) (T : Top p loose mean mg mb h₀) (hk : cs.kind = .function) (hd : dp + 10 < 600) (hu : un + 100 < 2000)
    (hl : h₀.IsList sa vs.toArray) (hI : IntsAre vs ns) (hlen : ns.length ≤ 63) (hlay : (PyData.list (ns.map .int)).layable0 = true)
    (ret : ∀ h' tk' f φ, Fr h₀ L h' m → News h₀ L h' (fled f φ []) → FOk f φ [] → Q (.ref f.fa) { s with heap := h', toks := tk' }) :
    wpAny (model PySem.Challenge.rw_sj0029_01.row.prog w) (ktrTop dp un gd cn cs L a ccd cl outer) (call (.ref 201) [.ref sa]) Q E s := by
  have hrl : 600 < recursionLimit := by decide
  have hcl : 2000 < cLine := by decide
  refine wpAny_call ?_
  k_dflt cell_enter
  intro g' L' hh G' S' l' F' N' B' X' T'
  clear l'
  have hl' : g'.IsList sa vs.toArray := by
    obtain ⟨o, ho, r⟩ := hl
    exact ⟨o, G' _ _ (F.keep _ _ ho) (by simp), r⟩
  try dsimp only
  k_steps
  rename Fr g' _ _ _ => F3
  rename News g' _ _ _ => N3
  rename _ < _ ∧ _ < _ => l1
  rename IntsAre _ (List.map _ _) => hI9
  obtain ⟨Fa, Na⟩ := back F N G' F3 (news_sub N3 (n' := [(_, listOf [.ref _, .int _ _, .int _ _].toArray 0), (_, LCg.lst _)]) (by first | ktd_sub | fail))
  exact ret _ _ ⟨_, _⟩ ⟨_, _, _, _, _, _, _, _⟩ Fa Na ⟨hI9, by simp only [List.length_map, List.length_take]; omega, Nat.ne_of_gt l1.1, (fun _ h => nomatch h), (fun _ h => nomatch h)⟩
end
section
variable {prog : Program} {w : World} {A : Around} {E : Value → Shared → Prop} {s : Shared} {env : Env} {h₀ : Heap} {x : Str} {body : List Stmt} {Q : Flow → Shared → Prop}
theorem small_upto (n : Nat) (h : n ≤ 1000) : Builtin.Range.small 0 (n : Int) 1 = true ∧ Builtin.Range.rangeSize 0 (n : Int) 1 = (n : Int) := by
  have e : Builtin.Range.rangeSize 0 (n : Int) 1 = (n : Int) := by rw [rangeSize_nat]; omega
  refine ⟨?_, e⟩
  unfold Builtin.Range.small
  rw [e]
  simp [Builtin.Range.rangeFitsLong]
  omega
-- range(n): an invariant over the turn, the frame and the ledger
theorem upto_J {r : Addr} {b₀ : Int} {t₀ u₀ v₀ : Tok} {n : Nat} {m₀ : Str → Option Value} {news : List (Addr × Obj)} (J : Nat → (Str → Option Value) → List (Addr × Obj) → Prop) (hh : A.handled = none) (hr : IsRange s.heap r 0 b₀ 1 t₀ u₀ v₀) (hb : b₀ = (n : Int)) (hn : n ≤ 1000)
    (F : Fr h₀ env.locals s.heap m₀) (N : News h₀ env.locals s.heap news) (hj : J 0 m₀ news)
    (turn : ∀ (i : Nat) t m₁ nx h tk own, i < n → OwnOff own (nx.map (·.1)) → J i m₁ nx → Fr h₀ env.locals h (fun y => if y = x then some (.int (i : Int) t) else m₁ y) → News h₀ env.locals h (nx ++ own) →
      wpAny (model prog w) A (execs body env) (InvPostG h₀ env.locals (J (i + 1)) own { s with heap := h, toks := tk } Q) E { s with heap := h, toks := tk })
    (done : ∀ m₁ nx h tk, J n m₁ nx → Fr h₀ env.locals h m₁ → News h₀ env.locals h nx → Q .next { s with heap := h, toks := tk }) :
    wpAny (model prog w) A (pyIter (.ref r)) (fun it s₂ => LoopAtV prog w A h₀ env x body Q E it s₂) E s := by
  subst hb
  obtain ⟨hs, hz⟩ := small_upto n hn
  have fresh := next_is_new F
  have apart : ∀ p ∈ news, p.1 ≠ s.heap.objs.size := fun p hp => Nat.ne_of_lt (Heap.lt_size (N p hp).1)
  refine wpAny_pyIter_range hr hs (kdr_loop J (Walks.range hh _ 0 1 n) (fun _ h => h) (fun _ h => h) (fun i h hi b hb => ?_) (fun hm => ?_) (fun b hb => ?_) (fun p hp hm => ?_) ?_ (F.push _) (fun p hp => ⟨Heap.get?_push_of_some _ (N p hp).1, (N p hp).2⟩) hj ?_ done)
  · cases List.mem_singleton.mp hb
    exact ⟨_, hi⟩
  · have := F.ns.lt
    rw [List.mem_singleton.mp hm] at this
    exact Nat.lt_irrefl _ this
  · rw [List.mem_singleton.mp hb]
    exact fresh
  · exact apart p hp (List.mem_singleton.mp hm)
  · show IsRangeIter _ _ _ _ _
    rw [hz]
    simpa using Heap.get?_push_size _ rfl
  · rintro i v m₁ nx h tk own hi ⟨t, rfl⟩ hoff hJ F₁ N₁
    have e : (0 : Int) + (i : Int) * 1 = (i : Int) := by omega
    rw [e] at F₁
    exact turn i t m₁ nx h tk own hi hoff hJ F₁ N₁
end
abbrev tup2 (va vb : Value) : Obj := { cls := .type "tuple", data := .seq [va, vb].toArray }
def MenuAt (new : List (Addr × Obj)) (items : List Value) : Prop := ∀ j, j < 7 → ∃ y kd t vb val, items[j]? = some (.ref y) ∧ (y, tup2 (.str kd t) vb) ∈ new ∧ Vl.Is val vb ∧ ∀ i, Tk.ok ⟨kd, val, i⟩ ∧ (Tk.ans ⟨kd, val, i⟩).good new
structure RowSet (g' h' : Heap) (L' : Addr) (f : FA) (φ : FS) (ex : List (Addr × Obj)) (lr mn : Addr) (items : List Value) (z0 : Nat) (new : List (Addr × Obj)) : Prop where
  hold : ∀ q ∈ fled f φ ex, q.1 < z0
  hnew : ∀ p ∈ new, z0 ≤ p.1 ∧ p.1 ≠ lr
  hlr : z0 ≤ lr
  hmn : (mn, listOf items.toArray 0) ∈ new
  hmenu : MenuAt new items
  hN : News g' L' h' (fled f φ ((lr, listOf [].toArray 0) :: (new ++ ex)))
theorem tk_good {new : List (Addr × Obj)} {kd x : Str} {i : Int} (h1 : PyData.strOk kd = true) (h2 : PyData.strOk x = true) : Tk.ok ⟨kd, .s x, i⟩ ∧ (Tk.ans ⟨kd, .s x, i⟩).good new := ⟨fun _ => ⟨x, rfl⟩, h1, h2, trivial⟩
theorem fled_lt {f : FA} {φ : FS} {ex : List (Addr × Obj)} {z : Nat} (h : AllLt z (fled f φ ex)) : ∀ q ∈ fled f φ ex, q.1 < z := allLt_mem h
theorem fok_more {f : FA} {φ φ' : FS} {ex l : List (Addr × Obj)} {z0 : Nat} (D : FOk f φ ex) (D' : IntsAre φ'.vs φ'.ns ∧ φ'.ns.length ≤ 40) (ho : ∀ q ∈ fled f φ ex, q.1 < z0) (hn : ∀ p ∈ l, z0 ≤ p.1 ∨ p ∈ ex) : FOk f φ' l :=
  ⟨D'.1, D'.2, D.ne, fun p hp e => (hn p hp).elim (fun h => Nat.lt_irrefl _ (Nat.lt_of_lt_of_le (ho _ (.head _)) (e ▸ h))) (fun h => D.a1 p h e),
    fun p hp e => (hn p hp).elim (fun h => Nat.lt_irrefl _ (Nat.lt_of_lt_of_le (ho _ (.tail _ (.head _))) (e ▸ h))) (fun h => D.a2 p h e)⟩
structure RowOf (new : List (Addr × Obj)) (vals : List Value) (R : List Tk) : Prop where
  len : vals.length = R.length
  at' : ∀ (i : Nat) (v : Value) (t : Tk), vals[i]? = some v → R[i]? = some t → AnsIs new v t.ans
  ok : ∀ t ∈ R, t.ok
  good : ∀ t ∈ R, t.ans.good new
theorem RowOf.nil {new : List (Addr × Obj)} : RowOf new [] [] := ⟨rfl, (fun _ _ _ h => by simp at h), (fun _ h => nomatch h), (fun _ h => nomatch h)⟩
theorem RowOf.push {new new' : List (Addr × Obj)} {vals : List Value} {R : List Tk} {v : Value} {t : Tk} (h : RowOf new vals R) (s : ∀ p ∈ new, p ∈ new') (hv : AnsIs new' v t.ans) (ho : t.ok) (hg : t.ans.good new') : RowOf new' (vals ++ [v]) (R ++ [t]) := by
  refine ⟨by simp [h.len], fun i v' t' a b => ?_, fun t' ht => ?_, fun t' ht => ?_⟩
  · rw [List.getElem?_append] at a b
    split at a
    · rename_i hi
      rw [if_pos (by rw [← h.len]; exact hi)] at b
      exact (h.at' i v' t' a b).mono s
    · rename_i hi
      rw [if_neg (by rw [← h.len]; exact hi)] at b
      have e : i - vals.length = 0 := by
        cases q : i - vals.length with
        | zero => rfl
        | succ z => rw [q] at a; cases a
      rw [← h.len] at b
      rw [e] at a b
      cases a; cases b
      exact hv
  · rcases List.mem_append.mp ht with ht | ht
    · exact h.ok t' ht
    · cases List.mem_singleton.mp ht; exact ho
  · rcases List.mem_append.mp ht with ht | ht
    · exact Ans.good_mono (h.good t' ht) s
    · cases List.mem_singleton.mp ht; exact hg
def RowJ (f : FA) (ex : List (Addr × Obj)) (z0 lr mn : Addr) (items : List Value) (m₀ : Str → Option Value) (i : Nat) (m : Str → Option Value) (nx : List (Addr × Obj)) : Prop :=
  ∃ (φ : FS) (vals : List Value) (new : List (Addr × Obj)) (u : Str → Option Value) (R : List Tk), nx = fled f φ ((lr, listOf vals.toArray i) :: (new ++ ex)) ∧ m = (fun z => if ([Str.ofString "k", Str.ofString "kind", Str.ofString "value"] : List Str).contains z then u z else m₀ z) ∧ IntsAre φ.vs φ.ns ∧ φ.ns.length ≤ 40 ∧
    (∀ p ∈ new, z0 ≤ p.1 ∧ p.1 ≠ lr) ∧ (mn, listOf items.toArray 0) ∈ new ∧ MenuAt new items ∧ vals.length = i ∧ RowOf new vals R
theorem stored_same {l : List Str} {m₀ : Str → Option Value} : m₀ = (fun z => if l.contains z then m₀ z else m₀ z) := by funext z; split <;> rfl
theorem stored_again {l : List Str} {m₀ m' : Str → Option Value} (h : ∀ z, l.contains z = false → m' z = m₀ z) : m' = (fun z => if l.contains z then m' z else m₀ z) := by
  funext z
  cases q : l.contains z with
  | true => rfl
  | false => exact h z q
theorem fok_own {f : FA} {φ : FS} {X own : List (Addr × Obj)} (D : FOk f φ X) (h : OwnOff own ((fled f φ X).map (·.1))) : FOk f φ (X ++ own) :=
  ⟨D.iv, D.len, D.ne, fun p hp => (List.mem_append.mp hp).elim (D.a1 p) (fun hp => h p hp _ (.head _)), fun p hp => (List.mem_append.mp hp).elim (D.a2 p) (fun hp => h p hp _ (.tail _ (.head _)))⟩
theorem MenuAt.mono {new new' : List (Addr × Obj)} {items : List Value} (h : MenuAt new items) (s : ∀ p ∈ new, p ∈ new') : MenuAt new' items := fun j hj =>
  let ⟨y, kd, t, vb, val, a, b, c, d⟩ := h j hj
  ⟨y, kd, t, vb, val, a, s _ b, c, fun i => ⟨(d i).1, Ans.good_mono (d i).2 s⟩⟩
theorem row_turn_end {g' h' : Heap} {L' : Addr} {f : FA} {φ φ9 : FS} {ex new own : List (Addr × Obj)} {z0 lr mn i z y : Nat} {items vals : List Value} {m₀ m' : Str → Option Value} {kd : Str} {ty tz : Tok} {vb : Value} {val : Vl} {R : List Tk} {s₁ : Shared} {tk : Nat}
    (F : Fr g' L' h' m') (N : News g' L' h' ((z, tup3 (.str kd ty) vb (.int (2 + 3 * (i : Int)) tz)) :: (y, tup2 (.str kd ty) vb) :: (f.fa, listOf [.ref f.cl, .int φ9.b φ9.tb, .int φ9.c φ9.tc].toArray φ9.n) :: (f.cl, listOf φ9.vs.toArray φ9.nc) :: (lr, listOf (vals ++ [Value.ref z]).toArray (i + 1)) :: (new ++ ex ++ own)))
    (l1 : y < z ∧ f.fa < z ∧ f.cl < z ∧ lr < z ∧ AllLt z (new ++ ex ++ own)) (hm' : ∀ q, ([Str.ofString "k", Str.ofString "kind", Str.ofString "value"] : List Str).contains q = false → m' q = m₀ q) (hI : IntsAre φ9.vs φ9.ns) (hL : φ9.ns.length ≤ 40)
    (hlr : z0 ≤ lr) (hnew : ∀ p ∈ new, z0 ≤ p.1 ∧ p.1 ≠ lr) (hmn : (mn, listOf items.toArray 0) ∈ new) (hmenu : MenuAt new items) (hlen : vals.length = i) (hrow : RowOf new vals R) (hm : (y, tup2 (.str kd ty) vb) ∈ new) (hv : Vl.Is val vb) (hgood : ∀ i, Tk.ok ⟨kd, val, i⟩ ∧ (Tk.ans ⟨kd, val, i⟩).good new)
    (hoff : OwnOff own ((fled f φ ((lr, listOf vals.toArray i) :: (new ++ ex))).map (·.1))) : InvEndG g' L' (RowJ f ex z0 lr mn items m₀ (i + 1)) own s₁ { s₁ with heap := h', toks := tk } := by
  have mem : ∀ p, p ∈ new ++ ex → p ∈ new ++ ex ++ own := fun p hp => List.mem_append_left _ hp
  refine InvEndG.intro F N ⟨φ9, vals ++ [Value.ref z], (z, tup3 (.str kd ty) vb (.int (2 + 3 * (i : Int)) tz)) :: new, m', R ++ [⟨kd, val, 2 + 3 * (i : Int)⟩], rfl, stored_again hm', hI, hL, ?_, .tail _ hmn, hmenu.mono (fun _ h => .tail _ h), ?_, ?_⟩ ?_ ?_ ?_
  · intro p hp
    rcases List.mem_cons.mp hp with rfl | hp
    · exact ⟨Nat.le_of_lt (Nat.lt_of_le_of_lt (hnew _ hm).1 l1.1), Nat.ne_of_gt l1.2.2.2.1⟩
    · exact hnew p hp
  · simp [hlen]
  · exact hrow.push (fun _ h => .tail _ h) ⟨_, _, _, _, rfl, .head _, ⟨_, rfl⟩, Vl.dt_is hv, ⟨_, rfl⟩⟩ (hgood _).1 (Ans.good_mono (hgood _).2 fun _ h => .tail _ h)
  · intro p hp b hb
    obtain ⟨q, hq, rfl⟩ := List.mem_map.mp hb
    rcases List.mem_cons.mp hq with rfl | hq
    · exact hoff p hp _ (.head _)
    rcases List.mem_cons.mp hq with rfl | hq
    · exact hoff p hp _ (.tail _ (.head _))
    rcases List.mem_cons.mp hq with rfl | hq
    · exact hoff p hp _ (.tail _ (.tail _ (.head _)))
    rcases List.mem_cons.mp hq with rfl | hq
    · exact Nat.ne_of_lt (allLt_mem l1.2.2.2.2 p (List.mem_append_right _ hp))
    · exact hoff p hp _ (.tail _ (.tail _ (.tail _ (List.mem_map_of_mem hq))))
  · intro p hp
    rcases List.mem_cons.mp hp with rfl | hp
    · exact .tail _ (.tail _ (.head _))
    rcases List.mem_cons.mp hp with rfl | hp
    · exact .tail _ (.tail _ (.tail _ (.head _)))
    rcases List.mem_cons.mp hp with rfl | hp
    · exact .tail _ (.tail _ (.tail _ (.tail _ (.head _))))
    rcases List.mem_cons.mp hp with rfl | hp
    · exact .head _
    · exact .tail _ (.tail _ (.tail _ (.tail _ (.tail _ (mem p hp)))))
  · exact fun p hp => .tail _ (.tail _ (.tail _ (.tail _ (.tail _ (List.mem_append_right _ hp)))))
theorem mem_left {α : Type} {p : α} {l r : List α} (h : p ∈ l) : p ∈ l ++ r := List.mem_append_left _ h
theorem num_ok : ¬ ((Str.ofString "num") = "op" ∨ (Str.ofString "num") = "key" ∨ (Str.ofString "num") = "id") := by decide +kernel
theorem row_setup {g' h' : Heap} {L' : Addr} {f : FA} {φ : FS} {ex : List (Addr × Obj)} {lr mn d1 d2 d3 d4 d5 d6 d7 d8 : Nat} {u1 u2 u3 u4 u5 u6 u7 u8 u9 u10 u11 u12 u13 v1 v2 v3 : Tok}
    (N : News g' L' h' ((lr, listOf #[] 0) :: (mn, listOf #[.ref d1, .ref d2, .ref d3, .ref d4, .ref d6, .ref d7, .ref d8] 0) :: (d8, tup2 (.str "id" u1) (.str "begin" u2)) :: (d7, tup2 (.str "key" u3) (.str "end" u4)) :: (d6, tup2 (.str "num" u5) (.ref d5)) ::
      (d5, ({ cls := .type "tuple", data := .seq #[.str "" v1, .str "" v2, .bool true, .str "1" v3] } : Obj)) :: (d4, tup2 (.str "id" u6) (.str "a" u7)) :: (d3, tup2 (.str "key" u8) (.str "begin" u9)) :: (d2, tup2 (.str "op" u10) (.str ";" u11)) :: (d1, tup2 (.str "op" u12) (.str "#" u13)) :: fled f φ ex))
    (l1 : f.fa < d1 ∧ f.cl < d1 ∧ AllLt d1 ex) (l2 : d1 < d2 ∧ f.fa < d2 ∧ f.cl < d2 ∧ AllLt d2 ex) (l3 : d2 < d3 ∧ d1 < d3 ∧ f.fa < d3 ∧ f.cl < d3 ∧ AllLt d3 ex) (l4 : d3 < d4 ∧ d2 < d4 ∧ d1 < d4 ∧ f.fa < d4 ∧ f.cl < d4 ∧ AllLt d4 ex)
    (l5 : d4 < d5 ∧ d3 < d5 ∧ d2 < d5 ∧ d1 < d5 ∧ f.fa < d5 ∧ f.cl < d5 ∧ AllLt d5 ex) (l6 : d5 < d6 ∧ d4 < d6 ∧ d3 < d6 ∧ d2 < d6 ∧ d1 < d6 ∧ f.fa < d6 ∧ f.cl < d6 ∧ AllLt d6 ex)
    (l7 : d6 < d7 ∧ d5 < d7 ∧ d4 < d7 ∧ d3 < d7 ∧ d2 < d7 ∧ d1 < d7 ∧ f.fa < d7 ∧ f.cl < d7 ∧ AllLt d7 ex) (l8 : d7 < d8 ∧ d6 < d8 ∧ d5 < d8 ∧ d4 < d8 ∧ d3 < d8 ∧ d2 < d8 ∧ d1 < d8 ∧ f.fa < d8 ∧ f.cl < d8 ∧ AllLt d8 ex)
    (l9 : d8 < mn ∧ d7 < mn ∧ d6 < mn ∧ d5 < mn ∧ d4 < mn ∧ d3 < mn ∧ d2 < mn ∧ d1 < mn ∧ f.fa < mn ∧ f.cl < mn ∧ AllLt mn ex) (l10 : mn < lr ∧ d8 < lr ∧ d7 < lr ∧ d6 < lr ∧ d5 < lr ∧ d4 < lr ∧ d3 < lr ∧ d2 < lr ∧ d1 < lr ∧ f.fa < lr ∧ f.cl < lr ∧ AllLt lr ex) :
    ∃ z0 new, RowSet g' h' L' f φ ex lr mn [.ref d1, .ref d2, .ref d3, .ref d4, .ref d6, .ref d7, .ref d8] z0 new := by
  refine ⟨d1, (mn, listOf #[.ref d1, .ref d2, .ref d3, .ref d4, .ref d6, .ref d7, .ref d8] 0) :: (d8, tup2 (.str "id" u1) (.str "begin" u2)) :: (d7, tup2 (.str "key" u3) (.str "end" u4)) :: (d6, tup2 (.str "num" u5) (.ref d5)) ::
      (d5, ({ cls := .type "tuple", data := .seq #[.str "" v1, .str "" v2, .bool true, .str "1" v3] } : Obj)) :: (d4, tup2 (.str "id" u6) (.str "a" u7)) :: (d3, tup2 (.str "key" u8) (.str "begin" u9)) :: (d2, tup2 (.str "op" u10) (.str ";" u11)) :: [(d1, tup2 (.str "op" u12) (.str "#" u13))], allLt_mem l1, ?_, ?_, .head _, ?_, news_sub N ?_⟩
  · obtain ⟨a1, a2, a3, a4, a5, a6, a7, a8, a9, _⟩ := l10
    have b1 := l2.1; have b2 := l3.2.1; have b3 := l4.2.2.1; have b4 := l5.2.2.2.1; have b5 := l6.2.2.2.2.1; have b6 := l7.2.2.2.2.2.1; have b7 := l8.2.2.2.2.2.2.1; have b8 := l9.2.2.2.2.2.2.2.1
    clear N l1 l2 l3 l4 l5 l6 l7 l8 l9
    intro p hp
    simp only [List.mem_cons, List.not_mem_nil, or_false] at hp
    rcases hp with rfl | rfl | rfl | rfl | rfl | rfl | rfl | rfl | rfl <;> refine ⟨?_, Nat.ne_of_lt ?_⟩ <;> first | assumption | exact Nat.le_refl _ | exact Nat.le_of_lt (by assumption)
  · exact Nat.le_of_lt l10.2.2.2.2.2.2.2.2.1
  · intro j hj
    match j, hj with
    | 0, _ => exact ⟨d1, "op", u12, .str "#" u13, .s "#", rfl, (.tail _ (.tail _ (.tail _ (.tail _ (.tail _ (.tail _ (.tail _ (.tail _ (.head _))))))))), ⟨_, rfl⟩, fun i => tk_good (by decide +kernel) (by decide +kernel)⟩
    | 1, _ => exact ⟨d2, "op", u10, .str ";" u11, .s ";", rfl, (.tail _ (.tail _ (.tail _ (.tail _ (.tail _ (.tail _ (.tail _ (.head _)))))))), ⟨_, rfl⟩, fun i => tk_good (by decide +kernel) (by decide +kernel)⟩
    | 2, _ => exact ⟨d3, "key", u8, .str "begin" u9, .s "begin", rfl, (.tail _ (.tail _ (.tail _ (.tail _ (.tail _ (.tail _ (.head _))))))), ⟨_, rfl⟩, fun i => tk_good (by decide +kernel) (by decide +kernel)⟩
    | 3, _ => exact ⟨d4, "id", u6, .str "a" u7, .s "a", rfl, (.tail _ (.tail _ (.tail _ (.tail _ (.tail _ (.head _)))))), ⟨_, rfl⟩, fun i => tk_good (by decide +kernel) (by decide +kernel)⟩
    | 4, _ => exact ⟨d6, "num", u5, .ref d5, .r d5, rfl, (.tail _ (.tail _ (.tail _ (.head _)))), rfl, fun i => ⟨fun h => absurd h num_ok, show PyData.strOk "num" = true by decide +kernel, ⟨v1, v2, v3, (.tail _ (.tail _ (.tail _ (.tail _ (.head _)))))⟩, trivial⟩⟩
    | 5, _ => exact ⟨d7, "key", u3, .str "end" u4, .s "end", rfl, (.tail _ (.tail _ (.head _))), ⟨_, rfl⟩, fun i => tk_good (by decide +kernel) (by decide +kernel)⟩
    | 6, _ => exact ⟨d8, "id", u1, .str "begin" u2, .s "begin", rfl, (.tail _ (.head _)), ⟨_, rfl⟩, fun i => tk_good (by decide +kernel) (by decide +kernel)⟩
  · intro p hp
    rcases List.mem_cons.mp hp with rfl | hp
    · iterate 10 apply List.Mem.tail
      exact .head _
    rcases List.mem_cons.mp hp with rfl | hp
    · iterate 11 apply List.Mem.tail
      exact .head _
    rcases List.mem_cons.mp hp with rfl | hp
    · exact .head _
    rcases List.mem_append.mp hp with hp | hp
    · exact .tail _ (mem_left (r := fled f φ ex) hp)
    · iterate 12 apply List.Mem.tail
      exact hp
section
variable {w : World} {dp un : Nat} {gd : Option (List Code)} {cn : Str} {cs : Scope} {a : Addr} {ccd : Value} {cl : List (Str × Addr)} {outer : List Env} {A₀ : Around} {base h₀ : Heap} {L : Addr} {m : Str → Option Value} {s : Shared} {E : Value → Shared → Prop}
  {p : Program} {loose : List Str} {mean : ExcName → Option Value} {mg mb : Str → Option Value} {Q : Value → Shared → Prop}
local macro_rules | `(tactic| walk_at "exec For") => `(tactic| (k_here; refine Hold.out ?_))
local macro_rules | `(tactic| walk_at "exec For Name Call cons nil") => `(tactic| (k_here; refine Hold.out ?_))
local macro_rules | `(tactic| walk_at "call type:range") => `(tactic| (k_here; (with_unfolding_all refine range1_rows (by k_asm) (by k_asm) ?_); intro _ _ _ _ _ _ _ _ _))
local macro_rules | `(tactic| walk_at "pyIter ref") => `(tactic| (k_here; refine Hold.out ?_))
theorem row_in {f : FA} {φ : FS} {ex : List (Addr × Obj)} {least : Int} {t1 : Tok}
    (B : Below A₀ base outer h₀) (F : Fr h₀ L s.heap m) (X : (hd.heap_1 w.params).In h₀) (N : News h₀ L s.heap (fled f φ ex)) (T : Top p loose mean mg mb h₀) (hk : cs.kind = .function) (hd : dp + 10 < 600) (hu : un + 200 < 2000)
    (D : FOk f φ ex) (hl0 : 0 ≤ least) (hl1 : least ≤ 3)
    (ret : ∀ (lr : Nat) h' tk' φ' vals (nn : Nat) new z0 R, Fr h₀ L h' m → News h₀ L h' (fled f φ' ((lr, listOf vals.toArray nn) :: (new ++ ex))) → FOk f φ' ((lr, listOf vals.toArray nn) :: (new ++ ex)) → (∀ q ∈ fled f φ ex, q.1 < z0) → z0 ≤ lr → (∀ p ∈ new, z0 ≤ p.1 ∧ p.1 ≠ lr) → RowOf new vals R → R.length ≤ 7 →
      Q (.ref lr) { s with heap := h', toks := tk' }) :
    wpAny (model PySem.Challenge.rw_sj0029_01.row.prog w) (ktrTop dp un gd cn cs L a ccd cl outer) (call (.ref 215) [.ref f.fa, .int least t1]) Q E s := by
  have hrl : 600 < recursionLimit := by decide
  have hcl : 2000 < cLine := by decide
  refine wpAny_call ?_
  k_dflt cell_enter
  intro g' L' hh G' S' l' F' N' B' X' T'
  clear l'
  try dsimp only
  k_fold
  k_steps
  rename Fr g' _ _ _ => F3
  rename News g' _ _ _ => N3
  obtain ⟨z0, new, ho, hn', hlr, hmn, hmenu, N4⟩ := row_setup N3 (by assumption) (by assumption) (by assumption) (by assumption) (by assumption) (by assumption) (by assumption) (by assumption) (by assumption) (by assumption)
  iterate 10 (rename @LT.lt Nat _ _ _ ∧ _ => l1; clear l1)
  clear N3
  have hD : ∀ (l : List (Addr × Obj)) (φ' : FS), IntsAre φ'.vs φ'.ns → φ'.ns.length ≤ 40 → (∀ p ∈ l, z0 ≤ p.1 ∨ p ∈ ex) → FOk f φ' l := fun l φ' a b c => fok_more D ⟨a, b⟩ ho c
  refine ⟨For_invVF F3 rfl rfl ?_ (by intro _; rfl)⟩
  k_steps
  rename Fr g' _ _ _ => F5
  refine ⟨pick_in (f := f) (φ := φ) (by assumption) F5 (by assumption) N4 (by assumption) rfl ?_ ?_ (hD _ _ D.iv D.len fun p hp => ?_) (by omega) (by omega) ?_⟩
  · show dp + 1 + 4 < _; omega
  · show un + 3 + 100 < _; omega
  · rcases List.mem_cons.mp hp with rfl | hp
    · exact .inl hlr
    · exact (List.mem_append.mp hp).elim (fun h => .inl (hn' p h).1) .inr
  intro k t h6 tk6 φ6 hk0 hk1 F6 N6 D6
  k_steps
  rename Fr g' _ _ _ => F7
  rename News g' _ _ _ => N7
  obtain ⟨n, hn⟩ : ∃ n : Nat, least + k = (n : Int) := ⟨(least + k).toNat, by omega⟩
  refine ⟨upto_J (RowJ f ex z0 _ _ _ _) rfl (by assumption) hn (by omega) F7 N7 ⟨φ6, [], new, _, [], rfl, stored_same, D6.iv, D6.len, hn', hmn, hmenu, rfl, RowOf.nil⟩ ?_ ?_⟩
  · clear hmenu hmn hn' N7 F7 N6 D6 N4
    rintro i t m₁ nx h8 tk8 own hi hoff ⟨φ, vals, new, u, R, rfl, rfl, hI, hL, hnew, hmn, hmenu, hlen, hrow⟩ F8 N8
    have hoff0 := hoff
    have D8 : FOk f φ ((_, listOf vals.toArray i) :: (new ++ ex)) := hD _ _ hI hL fun p hp => by
      rcases List.mem_cons.mp hp with rfl | hp
      · exact .inl hlr
      · exact (List.mem_append.mp hp).elim (fun h => .inl (hnew p h).1) .inr
    k_steps
    refine ⟨pick_in (f := f) (φ := φ) (by assumption) F8 (by assumption) N8 (by assumption) rfl ?_ ?_ (fok_own D8 hoff) (by omega) (by omega) ?_⟩
    · show dp + 1 + 4 < _; omega
    · show un + 3 + 100 < _; omega
    intro k2 t2 h9 tk9 φ9 hk2 hk3 F9 N9 D9
    obtain ⟨y, kd, ty, vb, val, hx, hm, hv, hgood⟩ := hmenu k2.toNat (by omega)
    have hin : handedIn vb = true := handed_val hv
    have e1 : Dif y _ := ⟨(hnew _ hm).2⟩
    have e3 : ∀ p ∈ new ++ ex ++ own, p.1 ≠ _ := fun p hp => by
      rcases List.mem_append.mp hp with hp | hp
      · rcases List.mem_append.mp hp with hp | hp
        · exact (hnew p hp).2
        · exact Nat.ne_of_lt (Nat.lt_of_lt_of_le (ho p (.tail _ (.tail _ hp))) hlr)
      · exact hoff p hp _ (.tail _ (.tail _ (.head _)))
    have e4 : Dif f.fa _ := ⟨Nat.ne_of_lt (Nat.lt_of_lt_of_le (ho _ (.head _)) hlr)⟩
    have e5 : Dif f.cl _ := ⟨Nat.ne_of_lt (Nat.lt_of_lt_of_le (ho _ (.tail _ (.head _))) hlr)⟩
    have hvl : vals.length ≤ 100 := by omega
    have N10 : News g' L' h9 ((y, tup2 (.str kd ty) vb) :: (f.fa, _) :: (f.cl, _) :: (_, listOf vals.toArray i) :: (new ++ ex ++ own)) := news_sub N9 (cons_in (.tail _ (.tail _ (.tail _ (List.mem_append_left _ (List.mem_append_left _ hm))))) (fun p hp => hp))
    clear N9 N8 F8
    k_steps
    rename Fr g' _ _ _ => F11
    rename News g' _ _ _ => N11
    rename @LT.lt Nat _ y _ ∧ _ => l1
    refine row_turn_end F11 N11 l1 (fun z hz => ?_) D9.iv D9.len hlr hnew hmn hmenu hlen hrow hm hv hgood hoff
    have hz0 := hz
    simp only [List.contains_cons, List.contains_nil, Bool.or_eq_false_iff, beq_eq_false_iff_ne] at hz
    obtain ⟨a1, a2, a3, _⟩ := hz
    dsimp only
    rw [if_neg a3, if_neg a2, if_neg a1, if_neg (by rw [hz0]; decide)]
  · clear hmenu hmn N7 F7 N6 D6 N4
    rintro m₁ nx h8 tk8 ⟨φ8, vals, new8, u, R, rfl, rfl, hI, hL, hnew, hmn, hmenu, hlen, hrow⟩ F8 N8
    k_steps
    obtain ⟨Fa, Na⟩ := back F N G' F8 N8
    exact ret _ _ _ φ8 vals _ new8 z0 R Fa Na (hD _ _ hI hL fun p hp => by
      rcases List.mem_cons.mp hp with rfl | hp
      · exact .inl hlr
      · exact (List.mem_append.mp hp).elim (fun h => .inl (hnew p h).1) .inr) ho hlr hnew hrow (by have := hrow.len; omega)
end
section
open LCg LCp
variable {prog : Program} {w : World} {A : Around} {E : Value → Shared → Prop} {s : Shared} {h₀ : Heap} {L : Addr} {m : Str → Option Value} {env : Env}
abbrev tupV (a b c : Value) (n : Nat) : Obj := { cls := .type "tuple", data := .seq [a, b, c].toArray n }
-- one turn of the comprehension, from a tuple of three
def Turn3 (prog : Program) (w : World) (A : Around) (h₀ : Heap) (L : Addr) (m : Str → Option Value) (env : Env) (elt : Expr) (x y z : Str) (scope : Scope) (cl : List (Str × Addr)) (s : Shared) (J : Nat → List Value → List (Addr × Obj) → Prop) (i : Nat) (v : Value) (ys : List Value) (nx : List (Addr × Obj)) : Prop :=
  ∃ (t : Addr) (a b c : Value) (n : Nat), v = .ref t ∧ (t, tupV a b c n) ∈ nx ∧ ∀ I oI C oC D m₂ h tk (E' : Value → Shared → Prop), NsObj oC m₂ → m₂ x = some a → m₂ y = some b → m₂ z = some c → Fr h₀ L h m → News h₀ L h ((I, oI) :: (C, oC) :: (D, lst ys) :: nx) → Off3 I C D nx → ((@Ne Nat I C) ∧ (@Ne Nat I D) ∧ (@Ne Nat C D)) →
    wpAny (model prog w) A (eval elt (compEnvC scope cl C env)) (CompEnd h₀ L m { s with heap := h, toks := tk } I oI C oC D (lst ys) (fun _ => True) (fun r nx' => J (i + 1) (ys ++ [r]) nx')) E' { s with heap := h, toks := tk }
theorem comp3 {elt iter : Expr} {x y z : Str} {px py pz tp pos : Pos} {k0 : Nat} {scope : Scope} {cl : List (Str × Addr)} {lr : Addr} {vals : List Value} {nn : Nat} {news : List (Addr × Obj)} {Q : Value → Shared → Prop} (J : Nat → List Value → List (Addr × Obj) → Prop)
    (hh : A.handled = none) (F : Fr h₀ L s.heap m) (N : News h₀ L s.heap news) (hm : ∀ i ys nx, J i ys nx → (lr, listOf vals.toArray nn) ∈ nx) (hsz : vals.length ≤ 1000) (hj : J 0 [] news)
    (hclos : closureFor scope env = pure cl) (hcell : ∀ q ∈ scope.names, q.2 ≠ .cell) (hkind : scope.kind = .function) (hnames : ∀ q ∈ scope.names, q.2 = .local → scope.names.lookup q.1 = some .local)
    (hx : scope.names.lookup x = some .local) (hy : scope.names.lookup y = some .local) (hz : scope.names.lookup z = some .local) (hxy : x ≠ y) (hxz : x ≠ z) (hyz : y ≠ z)
    (hiter : ∀ Q' : Value → Shared → Prop, Q' (.ref lr) s → wpAny (model prog w) A (eval iter env) Q' E s)
    (turn : ∀ s' : Shared, (∃ g, s' = { s with heap := g }) → ∀ i v ys nx, vals[i]? = some v → J i ys nx → Turn3 prog w A h₀ L m env elt x y z scope cl s' J i v ys nx)
    (done : ∀ ys nx D h tk, (∀ p ∈ news, p.1 < D) → J vals.length ys nx → Fr h₀ L h m → News h₀ L h ((D, lst ys) :: nx) → Off1 D nx → Q (.ref D) { s with heap := h, toks := tk })
    (hs : ∀ x, foldedSetIterable iter env x = pure x := by intro _; rfl) :
    wpAny (model prog w) A (eval (.ListComp elt [⟨.Tuple [.Name x px, .Name y py, .Name z pz] k0 tp, iter, [], 0⟩] scope pos) env) Q E s := by
  have hmem := hm 0 [] news hj
  have hget := (N _ hmem).1
  have hl : s.heap.IsList lr vals.toArray := ⟨_, hget, rfl, nn, rfl⟩
  have lrlt : lr < s.heap.objs.size := Heap.lt_size hget
  have Llt : L < s.heap.objs.size := F.ns.lt
  have W := Walks.list (prog := prog) (w := w) hh s.heap.objs.size lr (Nat.ne_of_lt lrlt) vals.toArray
  have hlen : vals.toArray.size = vals.length := by simp
  rw [hlen] at W
  have none_at : ∀ a, s.heap.objs.size ≤ a → h₀.get? a = none := fun a ha => by
    cases e : h₀.get? a with
    | none => rfl
    | some o => exact absurd (Heap.lt_size (F.keep a o e)) (Nat.not_lt.mpr ha)
  rw [eval_ListComp]
  refine wpAny_comprehension_free (use := none) rfl hs hclos hkind hnames (hiter _ ?_)
  refine wpAny_pyIter_list hl (wpAny_newObj_type (wpAny_newFunctionEnv hcell (by intro q hq; simp at hq) (fun h₁ hns₁ hsb₁ => ?_) hkind))
  dsimp only at hns₁ hsb₁ ⊢
  obtain ⟨I, hI⟩ : ∃ x, s.heap.objs.size = x := ⟨_, rfl⟩
  rw [hI] at W lrlt Llt none_at ⊢
  obtain ⟨H1, hH1⟩ : ∃ x, s.heap.push { cls := .type "list_iterator", data := .fields #[.ref lr, .int 0 0] } = x := ⟨_, rfl⟩
  rw [hH1] at hns₁ hsb₁ ⊢
  have hD1 : H1.objs.size = I + 1 := by rw [← hH1, Heap.size_push, hI]
  obtain ⟨H2, hH2⟩ : ∃ x, H1.push { cls := .type "list", dict := none, data := .seq ([] : List Value).toArray } = x := ⟨_, rfl⟩
  rw [hH2] at hns₁ hsb₁ ⊢
  have hC1 : H2.objs.size = I + 2 := by rw [← hH2, Heap.size_push, hD1]
  obtain ⟨D, hD⟩ : ∃ x, H1.objs.size = x := ⟨_, rfl⟩
  rw [hD] at hD1 ⊢
  obtain ⟨C, hC⟩ : ∃ x, H2.objs.size = x := ⟨_, rfl⟩
  rw [hC] at hns₁ hsb₁ hC1 ⊢
  have cD : C ≠ D := by omega
  have iD : I ≠ D := by omega
  have iC : I ≠ C := by omega
  have lD : D ≠ L := Nat.ne_of_gt (Nat.lt_of_lt_of_le Llt (by omega))
  have lC : C ≠ L := Nat.ne_of_gt (Nat.lt_of_lt_of_le Llt (by omega))
  have lI : L ≠ I := Nat.ne_of_lt Llt
  have pI : ∀ b o, s.heap.get? b = some o → H1.get? b = some o := fun b o e => hH1 ▸ Heap.get?_push_of_some _ e
  have pD : ∀ b o, H1.get? b = some o → H2.get? b = some o := fun b o e => hH2 ▸ Heap.get?_push_of_some _ e
  have gI : H1.get? I = some { cls := .type "list_iterator", data := .fields #[.ref lr, .int 0 0] } := by rw [← hH1, ← hI]; exact Heap.get?_push_size _ rfl
  have gD : H2.get? D = some (lst []) := by rw [← hH2, ← hD]; exact Heap.get?_push_size _ rfl
  have pC : ∀ b o, b ≠ C → H2.get? b = some o → h₁.get? b = some o := fun b o hb e => hsb₁.extBut b o hb (Heap.get?_push_of_some _ e)
  have lt_of : ∀ b o, s.heap.get? b = some o → b < I := fun b o e => hI ▸ Heap.lt_size e
  have old : ∀ b o, s.heap.get? b = some o → h₁.get? b = some o := fun b o e => pC b o (Nat.ne_of_lt (Nat.lt_of_lt_of_le (lt_of b o e) (by omega))) (pD b o (pI b o e))
  have it0 : h₁.IsListIter I lr 0 := ⟨_, pC I _ iC (pD I _ gI), rfl, rfl⟩
  have lis : ∀ (h' : Heap) i ys nx, J i ys nx → News h₀ L h' ((D, lst ys) :: nx) → h'.IsList lr vals.toArray := fun h' i ys nx j N' => ⟨_, (N' _ (.tail _ (hm i ys nx j))).1, rfl, nn, rfl⟩
  have loop : codeAny (model prog w) A (.compLoop (.ListComp elt [⟨.Tuple [.Name x px, .Name y py, .Name z pz] k0 tp, iter, [], 0⟩] scope pos) 0 (.ref I) (.ref D) (compEnvC scope cl C env)) (compPost (model prog w) A E none Q (.ref D) C) { s with heap := h₁, toks := s.toks + ([] : List (Str × Value)).length } := by
    refine codeAny_compLoop_pair (fun k s' => ∃ h' tk i ys m' nx, s' = { s with heap := h', toks := tk } ∧ i ≤ vals.length ∧ k = vals.length + 1 - i ∧ ys.length = i ∧ h'.IsListIter I lr i ∧ Fr h₀ L h' m ∧ h'.Ns C m' ∧ News h₀ L h' ((D, lst ys) :: nx) ∧ Off3 I C D nx ∧ J i ys nx) ?_ (vals.length + 1)
      ⟨h₁, _, 0, [], _, news, rfl, Nat.zero_le _, rfl, rfl, it0, F.keeps old, hns₁, fun p hp => ?_, Off3.of fun p hp => ?_, hj⟩
    · rintro k s' ⟨h', tk, i, ys, m', nx, rfl, hi, rfl, hyl, hit, F', hn', N', off, hJ⟩
      have off3 := off.mem
      have nD : ∀ p ∈ (D, lst ys) :: nx, p.1 ≠ I := fun p hp => by
        rcases List.mem_cons.mp hp with rfl | hp
        · exact fun e => iD e.symm
        · exact (off3 p hp).1
      have nC : ∀ p ∈ (D, lst ys) :: nx, p.1 ≠ C := fun p hp => by
        rcases List.mem_cons.mp hp with rfl | hp
        · exact fun e => cD e.symm
        · exact (off3 p hp).2.1
      by_cases hlt : i < vals.length
      · refine W.item i _ _ _ hlt ⟨hit, lis h' i ys nx hJ N'⟩ fun v h₂ tk₂ hP hst₂ hk₂ => ?_
        have F₂ := fr_but F' hk₂ lI (none_at I (Nat.le_refl _))
        have N₂ := news_but N' hk₂ nD
        have ns₂ : h₂.Ns C m' := hn'.at' fun o e => hk₂ _ o (by simpa using fun q : C = I => iC q.symm) e
        obtain ⟨t, a, b, c, n3, rfl, ht, run⟩ := turn { s with heap := h₂ } ⟨_, rfl⟩ i v ys nx (by simpa using hP) hJ
        refine wpAny_letOwnedTupleGo_listiter hst₂.1 (assign_Tuple_tuple hh (⟨_, (N₂ _ (.tail _ ht)).1, rfl, n3, rfl⟩ : IsTup h₂ t [a, b, c].toArray) rfl rfl fun h₃ k₃ => ?_)
        have k3 : ∀ b o, h₂.get? b = some o → h₃.get? b = some o := fun b o e => k₃ b o (Nat.ne_of_lt (Heap.lt_size e)) e
        refine assignInOrder_cons (wpAny_assign_Name (wpAny_storeName_local (lookup_relabel_local hx) (ns₂.at' fun o e => k3 _ o e) (fun h₄ n₄ c₄ => ?_) (by simp [compEnvC, relabel, hkind])))
        refine assignInOrder_cons (wpAny_assign_Name (wpAny_storeName_local (lookup_relabel_local hy) n₄ (fun h₅ n₅ c₅ => ?_) (by simp [compEnvC, relabel, hkind])))
        refine assignInOrder_cons (wpAny_assign_Name (wpAny_storeName_local (lookup_relabel_local hz) n₅ (fun h₆ n₆ c₆ => ?_) (by simp [compEnvC, relabel, hkind])))
        refine assignInOrder_nil ?_
        have k6 : ∀ b o, b ≠ C → h₂.get? b = some o → h₆.get? b = some o := fun b o hb e => c₆.extBut b o hb (c₅.extBut b o hb (c₄.extBut b o hb (k3 b o e)))
        obtain ⟨oI, eI, rI⟩ := hst₂.1
        have eI6 := k6 I oI iC eI
        obtain ⟨oC, eC, hoC⟩ := ns_obj n₆
        have F₆ : Fr h₀ L h₆ m := (((F₂.keeps k3).change c₄ lC (none_at C (by omega))).change c₅ lC (none_at C (by omega))).change c₆ lC (none_at C (by omega))
        have N₆ : News h₀ L h₆ ((I, oI) :: (C, oC) :: (D, lst ys) :: nx) := fun p hp => by
          rcases List.mem_cons.mp hp with rfl | hp
          · exact ⟨eI6, fun e => lI e.symm, none_at I (Nat.le_refl _)⟩
          rcases List.mem_cons.mp hp with rfl | hp
          · exact ⟨eC, lC, none_at C (by omega)⟩
          · exact ⟨k6 _ _ (nC p hp) (N₂ p hp).1, (N₂ p hp).2⟩
        refine wpAny_mono (run I oI C oC D _ h₆ _ _ hoC (by simp [hxy, hxz]) (by simp [hyz]) (by simp) F₆ N₆ off ⟨iC, iD, cD⟩) (fun r s₄ q => ?_) fun _ _ e => e
        obtain ⟨h₇, tk₇, nx₇, rfl, F₇, N₇, off₇, _, J₇⟩ := q
        have zI := (N₇ _ (.head _)).1
        have zC := (N₇ _ (.tail _ (.head _))).1
        have zD := (N₇ _ (.tail _ (.tail _ (.head _)))).1
        have off4 := off₇.mem
        refine append_at (hsz := by show ys.toArray.size ≤ sizeLine; rw [sizeLine_eq, List.size_toArray]; omega) zD fun h₈ s₈ d₈ => ?_
        refine ⟨vals.length + 1 - (i + 1), by omega, h₈, tk₇, i + 1, ys ++ [r], _, nx₇, rfl, hlt, rfl, by rw [List.length_append, List.length_singleton, hyl], ?_, F₇.change s₈ lD (none_at D (by omega)), (hoC.ns zC).sameBut s₈ cD, fun p hp => ?_, off₇, J₇⟩
        · exact ⟨oI, s₈.extBut _ _ iD zI, rI⟩
        · rcases List.mem_cons.mp hp with rfl | hp
          · exact ⟨d₈.trans (congrArg some (lst_snoc ys r)), lD, none_at D (by omega)⟩
          · have z := N₇ p (.tail _ (.tail _ (.tail _ hp)))
            exact ⟨s₈.extBut _ _ (off4 p hp).2.2 z.1, z.2⟩
      · obtain rfl : i = vals.length := Nat.le_antisymm hi (Nat.not_lt.mp hlt)
        refine W.done _ _ _ ⟨hit, lis h' _ ys nx hJ N'⟩ fun h₂ tk₂ hk₂ => ?_
        have F₂ := fr_but F' hk₂ lI (none_at I (Nat.le_refl _))
        have N₂ := news_but N' hk₂ nD
        refine ⟨m', hn'.at' fun o e => hk₂ _ o (by simpa using fun q : C = I => iC q.symm) e, fun h₃ s₃ => done ys nx D h₃ tk₂ (fun p hp => Nat.lt_of_lt_of_le (lt_of _ _ (N p hp).1) (by omega)) hJ (F₂.change s₃ lC (none_at C (by omega))) (fun p hp => ⟨s₃.extBut _ _ (nC p hp) (N₂ p hp).1, (N₂ p hp).2⟩) off.one⟩
    · rcases List.mem_cons.mp hp with rfl | hp
      · exact ⟨pC D _ (fun e => cD e.symm) gD, lD, none_at D (by omega)⟩
      · exact ⟨old _ _ (N p hp).1, (N p hp).2⟩
    · have := lt_of _ _ (N p hp).1
      exact ⟨Nat.ne_of_lt this, Nat.ne_of_lt (Nat.lt_of_lt_of_le this (by omega)), Nat.ne_of_lt (Nat.lt_of_lt_of_le this (by omega))⟩
  exact codeAny_compStart_list loop (W.self 0 _ _ _ ⟨it0, lis h₁ 0 [] news hj fun p hp => by
    rcases List.mem_cons.mp hp with rfl | hp
    · exact ⟨pC D _ (fun e => cD e.symm) gD, lD, none_at D (by omega)⟩
    · exact ⟨old _ _ (N p hp).1, (N p hp).2⟩⟩ loop)
end
-- a cursor that is being made
abbrev cur3 (q : Q3) (xs la : Nat) (hs : Bool) : Obj := dictOf [⟨q.h1, .str "source" q.k1, .ref xs⟩, ⟨q.h2, .str "ahead" q.k2, .ref la⟩, ⟨q.h3, .str "hashed" q.k3, .bool hs⟩] 3
abbrev led0 (c : CA) (q3 : Q3) (hs : Bool) (ah : List Value) (na pl : Nat) (tp : Tok) (b : Bool) (ex : List (Addr × Obj)) : List (Addr × Obj) :=
  (c.xc, instObj 192 c.dc) :: (c.dc, cur3 q3 c.xs c.la hs) :: (c.la, listOf ah.toArray na) :: (c.xs, instObj 92 c.ds) :: (c.ds, srcD c.q c.lt pl tp b) :: (c.lt, listOf c.toks.toArray c.n) :: ex
section
variable {w : World} {dp un : Nat} {gd : Option (List Code)} {cn : Str} {cs : Scope} {a : Addr} {ccd : Value} {cl : List (Str × Addr)} {outer : List Env} {A₀ : Around} {base h₀ : Heap} {L : Addr} {m : Str → Option Value} {s : Shared} {E : Value → Shared → Prop}
  {p : Program} {loose : List Str} {mean : ExcName → Option Value} {mg mb : Str → Option Value} {Q : Value → Shared → Prop}
theorem fetch0_in {c : CA} {hs b : Bool} {pl na : Nat} {tp : Tok} {ah : List Value} {q3 : Q3} {R : List Tk} {ex : List (Addr × Obj)}
    (B : Below A₀ base outer h₀) (F : Fr h₀ L s.heap m) (X : (hd.heap_1 w.params).In h₀) (N : News h₀ L s.heap (led0 c q3 hs ah na pl tp b ex)) (T : Top p loose mean mg mb h₀) (hk : cs.kind = .function) (hd : dp + 8 < recursionLimit) (hu : un + 60 < cLine)
    (D : Apart c ex) (h1 : pl ≤ R.length) (hl : R.length ≤ 1000) (hok : ∀ t ∈ R, t.ok)
    (hR : c.toks.length = R.length ∧ ∀ (i : Nat) (v : Value) (t : Tk), c.toks[i]? = some v → R[i]? = some t → TokOf ex v t)
    (ret : ∀ r h' tk' t' ex', Fr h₀ L h' m → News h₀ L h' (led0 c q3 (hashTk (tokAt R pl)) ah na (min (pl + 1) R.length) t' hs (ex ++ ex')) → (∀ p ∈ ex', s.heap.get? p.1 = none) → TokOf (ex ++ ex') r (tokAt R pl) → Q r { s with heap := h', toks := tk' }) :
    wpAny (model PySem.Challenge.rw_sj0029_01.row.prog w) (ktrTop dp un gd cn cs L a ccd cl outer) (call (.ref 117) [.ref c.xc]) Q E s := by
  obtain ⟨xc, dc, la, xs, ds, lt, q, qc, toks, n⟩ := c
  dsimp only at *
  obtain ⟨d0, e1, e2, e3⟩ := D
  dsimp only [led0] at *
  have d1 := ne_of_news N (a := dc) (b := ds) (by first | k_mem | fail) (by first | k_mem | fail) rfl
  have d2 := ne_of_news N (a := dc) (b := xs) (by first | k_mem | fail) (by first | k_mem | fail) rfl
  have d3 := ne_of_news N (a := dc) (b := xc) (by first | k_mem | fail) (by first | k_mem | fail) rfl
  have d4 := ne_of_news N (a := dc) (b := lt) (by first | k_mem | fail) (by first | k_mem | fail) rfl
  have d5 := ne_of_news N (a := ds) (b := xs) (by first | k_mem | fail) (by first | k_mem | fail) rfl
  have d6 := ne_of_news N (a := ds) (b := xc) (by first | k_mem | fail) (by first | k_mem | fail) rfl
  have d7 := ne_of_news N (a := ds) (b := lt) (by first | k_mem | fail) (by first | k_mem | fail) rfl
  have d8 := ne_of_news N (a := dc) (b := la) (by first | k_mem | fail) (by first | k_mem | fail) rfl
  have d9 := ne_of_news N (a := ds) (b := la) (by first | k_mem | fail) (by first | k_mem | fail) rfl
  refine wpAny_call ?_
  k_dflt cell_enter
  intro g' L' hh G' S' l' F' N' B' X' T'
  k_lt l'
  try dsimp only
  refine foldL F' ?_
  intro tk0 Ak mk F8
  k_fold
  k_steps
  rename Fr g' _ _ _ => F1
  rename News g' _ _ _ => N1
  refine ⟨next_token_K (q := q) (tp := tp) (lt := lt) (pl := pl) (R := R) (by assumption) F1 (by assumption) N1 (by assumption) rfl ?_ ?_ (by first | k_mem | fail) (by first | k_mem | fail) (fun t' => by first | k_upd | fail) h1 hl ⟨hR.1, fun i v t a b => (hR.2 i v t a b).mono fun p hp => ?_⟩ ?_⟩
  · show dp + 1 + 5 < _; omega
  · show un + 3 + 40 < _; omega
  · simp only [List.mem_cons, hp, or_true]
  intro r h' tk' t' ex' x dx q' t1 vv t3 F2 N2 fr er mx md hv
  subst er
  have N3 := news_sub N2 (cons_in mx (cons_in md (l := (xc, _) :: (dc, _) :: (la, _) :: (xs, _) :: (ds, _) :: (lt, _) :: (ex ++ ex')) (by first | ktd_sub | fail)))
  have e4 := ex_ne N1 (d := dc) (by first | k_mem | fail) e1 fr
  have d10 := ne_of_news N3 (a := dc) (b := x) (by first | k_mem | fail) (by first | k_mem | fail) rfl
  have d11 := ne_of_news N3 (a := dc) (b := dx) (by first | k_mem | fail) (by first | k_mem | fail) rfl
  have hok' : (tokAt R pl).ok := tokAt_ok hok pl
  have fr' : ∀ p ∈ ex', s.heap.get? p.1 = none := fun p hp => there_of G' F1 N1 (by first | kst_inAny | fail) (fr p hp)
  have m1 : (x, instObj 64 dx) ∈ ex ++ ex' := by
    simp only [List.mem_append, List.mem_cons, Prod.mk.injEq] at mx ⊢
    rcases mx with h | ⟨_, h⟩ | ⟨_, h⟩ | ⟨_, h⟩ | ⟨_, h⟩ | ⟨_, h⟩ | ⟨_, h⟩ | h <;> first | exact .inl h | exact .inr h | exact nomatch (congrArg sigOf h)
  have m2 : (dx, tkD q' (tokAt R pl).kd t1 vv (tokAt R pl).at' t3) ∈ ex ++ ex' := by
    simp only [List.mem_append, List.mem_cons, Prod.mk.injEq] at md ⊢
    rcases md with h | ⟨_, h⟩ | ⟨_, h⟩ | ⟨_, h⟩ | ⟨_, h⟩ | ⟨_, h⟩ | ⟨_, h⟩ | h <;> first | exact .inl h | exact .inr h | exact nomatch (congrArg sigOf h)
  have fin : ∀ (m2 : Str → Option Value) (h2 : Heap) (tk2 : Nat) (bb : Bool), Fr g' L' h2 m2 → News g' L' h2 ((x, instObj 64 dx) :: (dx, tkD q' (tokAt R pl).kd t1 vv (tokAt R pl).at' t3) :: (xc, instObj 192 dc) :: (dc, cur3 q3 xs la bb) :: (la, listOf ah.toArray na) :: (xs, instObj 92 ds) :: (ds, srcD q lt (min (pl + 1) R.length) t' hs) :: (lt, listOf toks.toArray n) :: (ex ++ ex')) →
      bb = hashTk (tokAt R pl) → Q (.ref x) { s with heap := h2, toks := tk2 } := by
    intro m2' h2 tk2 bb F9 N9 hb
    subst hb
    obtain ⟨Fa, Na⟩ := back F N G' F9 (news_sub N9 (n' := (xc, _) :: (dc, _) :: (la, _) :: (xs, _) :: (ds, _) :: (lt, _) :: (ex ++ ex')) (by first | ktd_sub | fail))
    exact ret _ _ _ _ ex' Fa Na fr' ⟨x, dx, q', t1, vv, t3, rfl, m1, m2, hv⟩
  clear N2 N1 F1 mx md m1 m2 ret
  generalize tokAt R pl = tk at *
  obtain ⟨kd, val, at'⟩ := tk
  dsimp only at *
  by_cases hkd : kd = "op"
  · obtain ⟨z, hz⟩ := hok' (.inl hkd)
    dsimp only at hz
    subst hkd hz
    obtain ⟨tz, rfl⟩ := hv
    k_steps
    refine fin _ _ _ _ (by assumption) (by assumption) rfl
  · have hk0 : (kd == "op") = false := by simpa using hkd
    k_steps
    refine fin _ _ _ _ (by assumption) (by assumption) ?_
    simp [hashTk, hk0]
end
section
variable {w : World} {dp un : Nat} {gd : Option (List Code)} {cn : Str} {cs : Scope} {a : Addr} {ccd : Value} {cl : List (Str × Addr)} {outer : List Env} {A₀ : Around} {base h₀ : Heap} {L : Addr} {m : Str → Option Value} {s : Shared} {E : Value → Shared → Prop}
  {p : Program} {loose : List Str} {mean : ExcName → Option Value} {mg mb : Str → Option Value} {Q : Value → Shared → Prop}
theorem cursor_new {R : List Tk} {ex : List (Addr × Obj)} {xs ds lt n : Nat} {q : Q3} {tp : Tok} {toks : List Value}
    (B : Below A₀ base outer h₀) (F : Fr h₀ L s.heap m) (X : (hd.heap_1 w.params).In h₀) (N : News h₀ L s.heap ((xs, instObj 92 ds) :: (ds, srcD q lt 0 tp false) :: (lt, listOf toks.toArray n) :: ex)) (T : Top p loose mean mg mb h₀) (hk : cs.kind = .function) (hd : dp + 12 < 600) (hu : un + 100 < 2000)
    (e1 : ∀ p ∈ ex, p.1 ≠ ds) (hl : R.length ≤ 1000) (hok : ∀ t ∈ R, t.ok) (hR : toks.length = R.length ∧ ∀ (i : Nat) (v : Value) (t : Tk), toks[i]? = some v → R[i]? = some t → TokOf ex v t)
    (ret : ∀ c σ h' tk' ex', c.xs = xs → c.ds = ds → c.lt = lt → Fr h₀ L h' m → News h₀ L h' (led c σ (ex ++ ex')) → Rel R 0 0 c σ (ex ++ ex') → Far ex' ((xs, instObj 92 ds) :: (ds, srcD q lt 0 tp false) :: (lt, listOf toks.toArray n) :: ex) → (∀ z ∈ xs :: ds :: lt :: ex.map (·.1), z < c.xc ∧ z < c.dc ∧ z < c.la) → Q (.ref c.xc) { s with heap := h', toks := tk' }) :
    wpAny (model PySem.Challenge.rw_sj0029_01.row.prog w) (ktrTop dp un gd cn cs L a ccd cl outer) (call (.ref 192) [.ref xs]) Q E s := by
  have hrl : 600 < recursionLimit := by decide
  have hcl : 2000 < cLine := by decide
  k_dflt (refine' call_cls ?k1 ?k2 ?k3 ?k4 ?k5 ?k6 ?_; (case k1 => k_asm); (case k2 => k_asm); (case k3 => k_asm); (case k4 => k_is); (case k5 => k_is); (case k6 => k_is); k_whole)
  intro xc dc h1 F1 N1 l1 l2
  k_lt l1
  k_lt2 l2
  k_dflt cell_enter
  intro g' L' hh G' S' l' F' N' B' X' T'
  clear l'
  try dsimp only
  refine foldL F' ?_
  intro tk0 Ak mk F8
  k_fold
  k_steps
  rename Fr g' _ _ _ => F3
  rename News g' _ _ _ => N3
  rename @LT.lt Nat _ xc _ ∧ _ => l3
  have a1 : ∀ p ∈ ex, p.1 ≠ dc := fun p hp => Nat.ne_of_lt (allLt_mem l1.2.2.2 p hp)
  have a3 := fun p hp => Nat.ne_of_lt (allLt_mem l3.2.2.2.2.2 p hp)
  refine ⟨fetch0_in (c := ⟨xc, dc, _, xs, ds, lt, q, ⟨0, 0, 0, 0, 0, 0, 0, 0, 0, 0⟩, toks, n⟩) (q3 := ⟨PyData.keyHash w.params "source", PyData.keyHash w.params "ahead", PyData.keyHash w.params "hashed", _, _, _⟩) (hs := false) (ah := []) (na := 0) (pl := 0) (b := false) (tp := tp) (R := R) (ex := ex) (by assumption) F3 (by assumption) (news_sub N3 (by first | ktd_sub | fail)) (by assumption) rfl ?_ ?_ ⟨Nat.ne_of_gt l3.2.2.2.2.1, a1, e1, a3⟩ (Nat.zero_le _) hl hok hR ?_⟩
  · simp only [depth_under_make, depth_deeper, ktrTop]; omega
  · show un + 1 + 3 + 60 < _; omega
  intro r h2 tk2 t' ex' F4 N4 fr tO
  try dsimp only
  obtain ⟨x, dx, q', t1, vv, t3, rfl, m1, m2, hv⟩ := tO
  have hin : handedIn vv = true := handed_val hv
  have fr' : ∀ p ∈ ex', h1.get? p.1 = none := fun p hp => there_of G' F3 N3 (by first | kst_inAny | fail) (fr p hp)
  dsimp only [led0] at N4
  have N5 := news_sub N4 (cons_in (in_led m1) (cons_in (in_led m2) (l := (xc, _) :: (dc, _) :: (_, _) :: (xs, _) :: (ds, _) :: (lt, _) :: (ex ++ ex')) (by first | ktd_sub | fail)))
  have d1 := ne_of_news N5 (a := dc) (b := x) (by first | k_mem | fail) (by first | k_mem | fail) rfl
  have d2 := ne_of_news N5 (a := dc) (b := dx) (by first | k_mem | fail) (by first | k_mem | fail) rfl
  have d3 := ne_of_news N5 (a := dc) (b := xc) (by first | k_mem | fail) (by first | k_mem | fail) rfl
  have d4 := ne_of_news N5 (a := dc) (b := xs) (by first | k_mem | fail) (by first | k_mem | fail) rfl
  have d5 := ne_of_news N5 (a := dc) (b := ds) (by first | k_mem | fail) (by first | k_mem | fail) rfl
  have d6 := ne_of_news N5 (a := dc) (b := lt) (by first | k_mem | fail) (by first | k_mem | fail) rfl
  have d7 : Dif dc _ := ⟨Nat.ne_of_lt l3.2.1⟩
  have a4 : ∀ p ∈ ex ++ ex', p.1 ≠ dc := ex_ne N3 (by first | k_mem | fail) a1 fr
  have a5 := ex_ne N3 (d := ds) (by first | k_mem | fail) e1 fr
  have a6 := ex_ne (ex' := ex') N3 (.head _) a3 fr
  clear N4 N3 F3
  k_steps
  dsimp only [InitBack]
  refine ⟨rfl, ?_⟩
  rename Fr g' _ _ _ => F8
  rename News g' _ _ _ => N8
  have N9 := news_sub N8 (n' := (xc, _) :: (dc, _) :: (_, listOf [].toArray 0) :: (xs, _) :: (ds, _) :: (lt, _) :: (ex ++ ex')) (by first | ktd_sub | fail)
  obtain ⟨Fa, Na⟩ := back F1 N1 G' F8 N9
  refine ret ⟨xc, dc, _, xs, ds, lt, q, ⟨_, _, _, _, _, _, _, _, _, _⟩, toks, n⟩ ⟨hashTk (tokAt R 0), .ref x, (tokAt R 0).at', t3, [], 0, min (0 + 1) R.length, t', false⟩ _ _ ex' rfl rfl rfl Fa Na ?_ ?_ ?_
  · exact ⟨Nat.le_refl _, Nat.zero_le _, hl, hok, rfl, rfl, by simp, ⟨x, dx, q', t1, vv, t3, rfl, m1, m2, hv⟩, rfl, rfl, (fun j v q => nomatch q), ⟨hR.1, fun i v t a b => (hR.2 i v t a b).mono sub_app⟩, ⟨Nat.ne_of_gt l3.2.2.2.2.1, a4, a5, a6⟩⟩
  · exact fun p hp q hq => far_of N1 fr' p hp q (.tail _ (.tail _ hq))
  · intro z hz
    have hz2 : z < dc := by
      simp only [List.mem_cons, List.mem_map] at hz
      rcases hz with rfl | rfl | rfl | ⟨p, hp, rfl⟩
      · exact l1.1
      · exact l1.2.1
      · exact l1.2.2.1
      · exact allLt_mem l1.2.2.2 p hp
    exact ⟨Nat.lt_trans hz2 l2, hz2, Nat.lt_trans hz2 l3.2.1⟩
end
section
variable {prog : Program} {w : World} {A : Around} {E : Value → Shared → Prop} {s : Shared} {env : Env} {h₀ : Heap} {body : List Stmt} {Q : Flow → Shared → Prop}
-- a loop over a list of the ledger, whose target is a tuple: an invariant over the turn, the frame and the ledger
theorem turns_J {elts : List Expr} {k0 : Nat} {tp : Pos} {l : Addr} {vs : List Value} {nn : Nat} {m₀ : Str → Option Value} {news : List (Addr × Obj)} (J : Nat → (Str → Option Value) → List (Addr × Obj) → Prop)
    (hh : A.handled = none) (hl : ∀ i m nx, J i m nx → (l, listOf vs.toArray nn) ∈ nx) (F : Fr h₀ env.locals s.heap m₀) (N : News h₀ env.locals s.heap news) (hj : J 0 m₀ news)
    (turn : ∀ i v m₁ nx h tk own, vs[i]? = some v → OwnOff own (nx.map (·.1)) → (∀ p ∈ own, p.2.cls = .type "list_iterator") → J i m₁ nx → Fr h₀ env.locals h m₁ → News h₀ env.locals h (nx ++ own) →
      wpAny (model prog w) A (assign (.Tuple elts k0 tp) env v) (fun _ s₃ => wpAny (model prog w) A (execs body env) (InvPostG h₀ env.locals (J (i + 1)) own { s with heap := h, toks := tk } Q) E s₃) E { s with heap := h, toks := tk })
    (done : ∀ m₁ nx h tk, J vs.length m₁ nx → Fr h₀ env.locals h m₁ → News h₀ env.locals h nx → Q .next { s with heap := h, toks := tk }) :
    wpAny (model prog w) A (pyIter (.ref l)) (fun it s₂ => TurnsAt prog w A h₀ env (.Tuple elts k0 tp) body Q E it s₂) E s := by
  have hm := hl 0 m₀ news hj
  have hol : s.heap.get? l = some (listOf vs.toArray nn) := (N _ hm).1
  have hls : s.heap.IsList l vs.toArray := ⟨_, hol, rfl, nn, rfl⟩
  have hne : l ≠ s.heap.objs.size := Nat.ne_of_lt (Heap.lt_size hol)
  have hI0 : h₀.get? s.heap.objs.size = none := next_is_new F
  refine wpAny_pyIter_list hls ?_
  have W := Walks.list (prog := prog) (w := w) hh s.heap.objs.size l hne vs.toArray
  have hlen : vs.toArray.size = vs.length := by simp
  rw [hlen] at W
  refine ⟨_, _, _, vs.length, _, _, _, m₀, news, J, rfl, KTurns.ofWalks W (fun i v s' Q' E' st hQ' => letGo_listiter st.1 hQ'), ?_, ?_, ?_, ⟨⟨_, Heap.get?_push_size _ rfl, rfl, rfl⟩, hls.at fun o e => Heap.get?_push_of_some _ e⟩, F.push _, (fun p hp => ⟨Heap.get?_push_of_some _ (N p hp).1, (N p hp).2⟩), hj, ?_, ?_⟩
  · intro hq
    rcases List.mem_cons.mp hq with e | hq
    · exact absurd F.ns.lt (e ▸ Nat.lt_irrefl _)
    · exact (N _ hm).2.1 ((List.mem_singleton.mp hq).symm)
  · intro b hb
    rw [List.mem_singleton.mp hb]
    exact hI0
  · intro p hp hI
    exact absurd (Heap.lt_size (N p hp).1) ((List.mem_singleton.mp hI) ▸ Nat.lt_irrefl _)
  · intro i v m₁ nx h₁ tk₁ own hin hP hJ hoff hown hget hfp hst F₁ N₁
    have hP' : vs[i]? = some v := by simpa using hP
    obtain ⟨⟨oI, hoI, hcI, _⟩, _⟩ := id hst
    have hmine : (s.heap.objs.size, oI) ∈ own.filter fun p => decide (p.1 = s.heap.objs.size) := List.mem_filter.mpr ⟨hfp _ (.head _) hI0 _ hoI, by simp⟩
    have hsep : OwnOff (own.filter fun p => decide (p.1 = s.heap.objs.size)) (nx.map (·.1)) := by
      intro p hp b hb e
      obtain ⟨q, hq, rfl⟩ := List.mem_map.mp hb
      have h1 : p.1 = s.heap.objs.size := by simpa using (List.mem_filter.mp hp).2
      exact hoff q hq (List.mem_singleton.mpr (e ▸ h1))
    have N₂ : News h₀ env.locals h₁ (nx ++ own.filter fun p => decide (p.1 = s.heap.objs.size)) := fun p hp => N₁ p ((List.mem_append.mp hp).elim (fun h => List.mem_append.mpr (.inr h)) fun h => List.mem_append.mpr (.inl ((List.mem_filter.mp h).1)))
    have hlo : h₁.get? l = some (listOf vs.toArray nn) := (N₁ _ (List.mem_append.mpr (.inr (hl i m₁ nx hJ)))).1
    refine wpAny_mono (turn i v m₁ nx h₁ tk₁ _ hP' hsep (fun p hp => by
      obtain ⟨q1, q2⟩ := List.mem_filter.mp hp
      have q3 := hget p q1
      rw [show p.1 = s.heap.objs.size from by simpa using q2, hoI] at q3
      rw [← Option.some.inj q3]; exact hcI) hJ F₁ N₂) (fun _ s₂ x => wpAny_mono x (fun f s₃ p => ?_) fun _ _ e => e) fun _ _ e => e
    have fin : InvEndG h₀ env.locals (J (i + 1)) (own.filter fun p => decide (p.1 = s.heap.objs.size)) { s with heap := h₁, toks := tk₁ } s₃ → LoopStepU h₀ env.locals [s.heap.objs.size] own (J (i + 1)) { s with heap := h₁, toks := tk₁ } .next s₃ := by
      rintro ⟨h', tk, m', news', ny, e, F', N', hn, ho, ha, hJ'⟩
      refine ⟨rfl, h', tk, m', ny, e, F', fun p hp => ?_, fun p hp hq => ?_, hJ'⟩
      · rcases List.mem_append.mp hp with hp | hp
        · by_cases hI : p.1 = s.heap.objs.size
          · exact N' p (ho p (List.mem_filter.mpr ⟨hp, by simpa using hI⟩))
          · have h1 : p.1 = l := by
              rcases List.mem_cons.mp (hown p hp) with h2 | h2
              · exact absurd h2 hI
              · exact List.mem_singleton.mp h2
            have h2 : h₁.get? p.1 = some p.2 := hget p hp
            rw [h1, hlo] at h2
            have h3 : p = (l, listOf vs.toArray nn) := Prod.ext h1 (Option.some.inj h2).symm
            rw [h3]
            exact N' _ (hn _ (hl _ _ _ hJ'))
        · exact N' p (hn p hp)
      · exact ha _ hmine p.1 (List.mem_map.mpr ⟨p, hp, rfl⟩) (List.mem_singleton.mp hq).symm
    cases f with
    | ret v => exact .ret p
    | brk => exact .brk p
    | next => exact .next (fin p)
    | cont => exact .cont (fin p)
  · rintro h' tk m' news' F' N' _ hJ
    exact done m' news' h' tk hJ F' N'
end
-- the deeds' sorts
inductive Sr where
  | take | peek | acceptOp | acceptKey | expectId | isOp | isKey | expectOp | expectKey | fail
def Sr.str : Sr → Str
  | .take => "take"
  | .peek => "peek"
  | .acceptOp => "accept_op"
  | .acceptKey => "accept_key"
  | .expectId => "expect_id"
  | .isOp => "is_op"
  | .isKey => "is_key"
  | .expectOp => "expect_op"
  | .expectKey => "expect_key"
  | .fail => "fail"
def Sr.sp (R : List Tk) (sp : Nat) (x : Str) : Sr → Nat
  | .take => sp + 1
  | .acceptOp | .expectOp => if isTk "op" (tokAt R sp) x then sp + 1 else sp
  | .acceptKey | .expectKey => if isTk "key" (tokAt R sp) x then sp + 1 else sp
  | .expectId => if (tokAt R sp).kd = "id" then sp + 1 else sp
  | .peek | .isOp | .isKey | .fail => sp
def Sr.se (R : List Tk) (sp se nn : Nat) (x : Str) : Sr → Nat
  | .take => max se (sp + 1)
  | .peek => max se (sp + nn)
  | .acceptOp | .expectOp => if isTk "op" (tokAt R sp) x then max se (sp + 1) else se
  | .acceptKey | .expectKey => if isTk "key" (tokAt R sp) x then max se (sp + 1) else se
  | .expectId => if (tokAt R sp).kd = "id" then max se (sp + 1) else se
  | .isOp | .isKey | .fail => se
def Sr.ans (R : List Tk) (sp nn : Nat) (x : Str) : Sr → Ans
  | .take => (tokAt R sp).ans
  | .peek => (tokAt R (sp + nn)).ans
  | .acceptOp | .isOp => .bool (isTk "op" (tokAt R sp) x)
  | .acceptKey | .isKey => .bool (isTk "key" (tokAt R sp) x)
  | .expectOp => if isTk "op" (tokAt R sp) x then .none else errAns "unexpected_token" (tokAt R sp).at' x
  | .expectKey => if isTk "key" (tokAt R sp) x then .none else errAns "unexpected_token" (tokAt R sp).at' x
  | .expectId => if (tokAt R sp).kd = "id" then .one (tokAt R sp).val.dt else errAns "unexpected_token" (tokAt R sp).at' "name"
  | .fail => errAns "odd_thing" (tokAt R sp).at' x
theorem Sr.sp_le (k : Sr) (R : List Tk) (sp : Nat) (x : Str) : k.sp R sp x ≤ sp + 1 := by
  cases k <;> simp only [Sr.sp] <;> first | omega | (split <;> omega)
theorem Sr.se_le (k : Sr) (R : List Tk) (sp se nn : Nat) (x : Str) (hn : nn ≤ 3) : k.se R sp se nn x ≤ max se (sp + 3) := by
  cases k <;> simp only [Sr.se] <;> first | omega | (split <;> omega)
theorem err_good {ex : List (Addr × Obj)} {kd : Str} {i : Int} {x : Str} (h1 : PyData.strOk kd = true) (h2 : PyData.strOk x = true) : (errAns kd i x).good ex := ⟨h1, trivial, h2⟩
theorem Sr.good (k : Sr) {R : List Tk} {ex : List (Addr × Obj)} (h : ∀ j, (tokAt R j).ans.good ex) (sp nn : Nat) (x : Str) (hx : PyData.strOk x = true) : (k.ans R sp nn x).good ex := by
  have u : PyData.strOk "unexpected_token" = true := by decide +kernel
  have v : PyData.strOk "name" = true := by decide +kernel
  have o : PyData.strOk "odd_thing" = true := by decide +kernel
  cases k <;> simp only [Sr.ans] <;> first | exact h _ | trivial | exact err_good o hx | (split; trivial; exact err_good u hx) | (split; exact (h _).2.1; exact err_good u v)
section
variable {w : World} {dp un : Nat} {gd : Option (List Code)} {cn : Str} {cs : Scope} {a : Addr} {ccd : Value} {cl : List (Str × Addr)} {A₀ : Around} {h₀ : Heap} {L : Addr} {m : Str → Option Value} {s : Shared} {E : Value → Shared → Prop}
  {p : Program} {loose : List Str} {mean : ExcName → Option Value} {mg mb : Str → Option Value} {Q : Value → Shared → Prop}
theorem told_all (k : Sr) {c : CA} {σ : CS} {R : List Tk} {ex : List (Addr × Obj)} {sp se : Nat} {x : Str} {nn : Nat} {t1 t2 t3 : Tok}
    (B : Below A₀ h₀ [] h₀) (F : Fr h₀ L s.heap m) (X : (hd.heap_1 w.params).In h₀) (N : News h₀ L s.heap (led c σ ex)) (T : Top p loose mean mg mb h₀) (hk : cs.kind = .function) (hd : dp + 24 < 600) (hu : un + 200 < 2000)
    (D : Rel R sp se c σ ex) (hse : se < 900) (hn : nn ≤ 3)
    (ret : ∀ r h' tk' σ' ex', Fr h₀ L h' m → News h₀ L h' (led c σ' (ex ++ ex')) → Far ex' (led c σ ex) → Rel R (k.sp R sp x) (k.se R sp se nn x) c σ' (ex ++ ex') → AnsIs (ex ++ ex') r (k.ans R sp nn x) → Q r { s with heap := h', toks := tk' }) :
    wpAny (model PySem.Challenge.rw_sj0029_01.row.prog w) (ktrTop dp un gd cn cs L a ccd cl []) (call (.ref 243) [.ref c.xc, .str k.str t1, .int nn t2, .str x t3]) Q E s := by
  cases k with
  | take => exact told_take B F X N T hk hd hu D hse fun r h' tk' σ' ex' F' N' fr => ret r h' tk' σ' ex' F' N' (far_of N fr)
  | peek =>
    rcases Nat.eq_zero_or_pos nn with rfl | hp
    · have e : max se (sp + 0) = se := by have := D.le; omega
      refine told_peek0 B F X N T hk hd hu D hse fun r h' tk' ex' F' N' fr D' A' => ret r h' tk' σ ex' F' N' (far_of N fr) ?_ A'
      simp only [Sr.se, Sr.sp]
      rw [e]
      exact D'
    · exact told_peek B F X N T hk hd hu D hse hp hn fun r h' tk' σ' ex' F' N' fr => ret r h' tk' σ' ex' F' N' (far_of N fr)
  | acceptOp => exact told_accept_op B F X N T hk hd hu D hse fun r h' tk' σ' ex' F' N' fr => ret r h' tk' σ' ex' F' N' (far_of N fr)
  | acceptKey => exact told_accept_key B F X N T hk hd hu D hse fun r h' tk' σ' ex' F' N' fr => ret r h' tk' σ' ex' F' N' (far_of N fr)
  | isOp => exact told_is_op B F X N T hk hd hu D hse fun r h' tk' σ' ex' F' N' fr => ret r h' tk' σ' ex' F' N' (far_of N fr)
  | isKey => exact told_is_key B F X N T hk hd hu D hse fun r h' tk' σ' ex' F' N' fr => ret r h' tk' σ' ex' F' N' (far_of N fr)
  | expectOp => exact told_expect_op B F X N T hk hd hu D hse ret
  | expectKey => exact told_expect_key B F X N T hk hd hu D hse ret
  | expectId => exact told_expect_id B F X N T hk hd hu D hse ret
  | fail => exact told_fail B F X N T hk hd hu D hse ret
theorem due_all (k : Sr) {R : List Tk} {W : WA} {od : Obj} {ex : List (Addr × Obj)} {sp se : Nat} {x : Str} {nn : Nat} {t1 t2 t3 : Tok}
    (B : Below A₀ h₀ [] h₀) (F : Fr h₀ L s.heap m) (X : (hd.heap_1 w.params).In h₀) (N : News h₀ L s.heap (wled W od ex)) (T : Top p loose mean mg mb h₀) (hk : cs.kind = .function) (hd : dp + 24 < 600) (hu : un + 200 < 2000)
    (D : WIs w sp se W od) (hR : WRow R W ex) (hok : ∀ t ∈ R, t.ok) (hle : sp ≤ se) (hse : se < 900) (hl : R.length ≤ 1000) (hn : nn ≤ 3)
    (ret : ∀ r h' tk' od' ex', Fr h₀ L h' m → News h₀ L h' (wled W od' (ex ++ ex')) → Far ex' (wled W od ex) → WIs w (k.sp R sp x) (k.se R sp se nn x) W od' → AnsIs (ex ++ ex') r (k.ans R sp nn x) → Q r { s with heap := h', toks := tk' }) :
    wpAny (model PySem.Challenge.rw_sj0029_01.row.prog w) (ktrTop dp un gd cn cs L a ccd cl []) (call (.ref 236) [.ref W.wd, .str k.str t1, .int nn t2, .str x t3]) Q E s := by
  cases k with
  | take => exact due_take B F X N T hk hd hu D hR hok hle hse hl fun r h' tk' od' ex' F' N' fr => ret r h' tk' od' ex' F' N' (far_of N fr)
  | peek => exact due_peek B F X N T hk hd hu D hR hok hle hse hl hn fun r h' tk' od' ex' F' N' fr => ret r h' tk' od' ex' F' N' (far_of N fr)
  | acceptOp => exact due_accept_op B F X N T hk hd hu D hR hok hle hse hl fun r h' tk' od' ex' F' N' fr => ret r h' tk' od' ex' F' N' (far_of N fr)
  | acceptKey => exact due_accept_key B F X N T hk hd hu D hR hok hle hse hl fun r h' tk' od' ex' F' N' fr => ret r h' tk' od' ex' F' N' (far_of N fr)
  | isOp => exact due_is_op B F X N T hk hd hu D hR hok hle hse hl fun r h' tk' od' ex' F' N' fr => ret r h' tk' od' ex' F' N' (far_of N fr)
  | isKey => exact due_is_key B F X N T hk hd hu D hR hok hle hse hl fun r h' tk' od' ex' F' N' fr => ret r h' tk' od' ex' F' N' (far_of N fr)
  | expectOp => exact due_expect_op B F X N T hk hd hu D hR hok hle hse hl fun r h' tk' od' ex' F' N' fr => ret r h' tk' od' ex' F' N' (far_of N fr)
  | expectKey => exact due_expect_key B F X N T hk hd hu D hR hok hle hse hl fun r h' tk' od' ex' F' N' fr => ret r h' tk' od' ex' F' N' (far_of N fr)
  | expectId => exact due_expect_id B F X N T hk hd hu D hR hok hle hse hl fun r h' tk' od' ex' F' N' fr => ret r h' tk' od' ex' F' N' (far_of N fr)
  | fail => exact due_fail B F X N T hk hd hu D hR hok hle hse hl fun r h' tk' od' ex' F' N' fr => ret r h' tk' od' ex' F' N' (far_of N fr)
end
-- no token, no tuple among l
def Other (l : List (Addr × Obj)) : Prop := ∀ p ∈ l, (∀ dx, p.2 ≠ instObj 64 dx) ∧ (∀ q kd t1 vv i t3, p.2 ≠ tkD q kd t1 vv i t3) ∧ p.2.cls ≠ .type "tuple"
theorem other_app {l l' : List (Addr × Obj)} (h : Other l) (h' : Other l') : Other (l ++ l') := fun p hp => (List.mem_append.mp hp).elim (h p) (h' p)
theorem type_ne {x y : String} (h : (x == y) = false) : (Value.type x) ≠ Value.type y := fun e => by
  injection e with e
  rw [e, beq_self_eq_true] at h
  cases h
theorem other_led (c : CA) (σ : CS) : Other (led c σ []) := by
  intro p hp
  simp only [led, List.mem_cons, List.not_mem_nil, or_false] at hp
  rcases hp with rfl | rfl | rfl | rfl | rfl | rfl <;> exact ⟨(fun _ h => nomatch (congrArg sigOf h)), (fun _ _ _ _ _ _ h => nomatch (congrArg sigOf h)), by first | exact type_ne (by decide) | exact fun h => nomatch h⟩
theorem pairs_head {prog : Program} {w : World} {l l' : List DictEntry} {e : DictEntry} {k : Str} {v : Value} {r : List (Str × Value)} (h : Pairs (PySem.strKind prog w) l ((k, v) :: r)) (he : l = e :: l') : (PySem.strKind prog w).is k e.key = true := by
  subst he
  cases h
  assumption
theorem other_wled {w : World} {sp se : Nat} {W : WA} {od : Obj} (D : WIs w sp se W od) : Other (wled W od []) := by
  intro p hp
  simp only [wled, List.mem_cons, List.not_mem_nil, or_false] at hp
  rcases hp with rfl | rfl
  · obtain ⟨t1, t2, es, ep, ⟨hc, _⟩, hdt, _, hp, _⟩ := D
    refine ⟨fun dx h => ?_, fun q kd t1 vv i t3 h => ?_, ?_⟩
    · rw [show od = instObj 64 dx from h] at hc; cases hc
    · rw [show od = tkD q kd t1 vv i t3 from h] at hdt
      cases hdt
      have z : (Str.ofString "kind" == Str.ofString "row") = true := pairs_head hp rfl
      exact absurd z (by decide)
    · show od.cls ≠ _
      rw [hc]
      exact type_ne (by decide)
  · exact ⟨(fun _ h => nomatch (congrArg sigOf h)), (fun _ _ _ _ _ _ h => nomatch (congrArg sigOf h)), type_ne (by decide)⟩
-- an iterator is neither
theorem other_iter {l : List (Addr × Obj)} (h : ∀ p ∈ l, p.2.cls = .type "list_iterator") : Other l := fun p hp => by
  have hc := h p hp
  refine ⟨fun dx h => ?_, fun q kd t1 vv i t3 h => ?_, ?_⟩
  · rw [h] at hc; cases hc
  · rw [h] at hc; exact type_ne (by decide) hc
  · rw [hc]; exact type_ne (by decide)
theorem tok_less {l o ex : List (Addr × Obj)} {v : Value} {t : Tk} (h : TokOf l v t) (ho : Other o) (hs : ∀ p ∈ l, p ∈ o ∨ p ∈ ex) : TokOf ex v t := by
  obtain ⟨x, dx, q, t1, vv, t3, hr, m1, m2, hv⟩ := h
  exact ⟨x, dx, q, t1, vv, t3, hr, (hs _ m1).elim (fun z => absurd rfl ((ho _ z).1 dx)) id, (hs _ m2).elim (fun z => absurd rfl ((ho _ z).2.1 _ _ _ _ _ _)) id, hv⟩
theorem ans_less {l o ex : List (Addr × Obj)} {v : Value} {a : Ans} (h : AnsIs l v a) (ho : Other o) (hs : ∀ p ∈ l, p ∈ o ∨ p ∈ ex) : AnsIs ex v a := by
  cases a with
  | tup a b c =>
    obtain ⟨y, va, vb, vc, e, hm, r⟩ := h
    exact ⟨y, va, vb, vc, e, (hs _ hm).elim (fun z => absurd rfl (ho _ z).2.2) id, r⟩
  | bool b => exact h
  | none => exact h
  | one d => exact h
theorem rel_less {R : List Tk} {sp se : Nat} {c : CA} {σ : CS} {l o ex : List (Addr × Obj)} (D : Rel R sp se c σ l) (ho : Other o) (hs : ∀ p ∈ l, p ∈ o ∨ p ∈ ex) (he : ∀ p ∈ ex, p ∈ l) : Rel R sp se c σ ex :=
  ⟨D.le, D.top, D.rl, D.ok, D.pl, D.hs, D.b, tok_less D.tv ho hs, D.i, D.len, fun j v q => tok_less (D.ah j v q) ho hs, ⟨D.row.1, fun i v t a b => tok_less (D.row.2 i v t a b) ho hs⟩,
    ⟨D.apart.l, fun p hp => D.apart.a1 p (he p hp), fun p hp => D.apart.a2 p (he p hp), fun p hp => D.apart.a3 p (he p hp)⟩⟩
theorem dt_less {l o ex : List (Addr × Obj)} {d : Dt} (h : d.good l) (ho : Other o) (hs : ∀ p ∈ l, p ∈ o ∨ p ∈ ex) : d.good ex := by
  cases d with
  | s x => exact h
  | r a =>
    obtain ⟨t1, t2, t3, hm⟩ := h
    exact ⟨t1, t2, t3, (hs _ hm).elim (fun z => absurd rfl (ho _ z).2.2) id⟩
  | i n => trivial
theorem good_less {l o ex : List (Addr × Obj)} {a : Ans} (h : a.good l) (ho : Other o) (hs : ∀ p ∈ l, p ∈ o ∨ p ∈ ex) : a.good ex := by
  cases a with
  | tup a b c => exact ⟨dt_less h.1 ho hs, dt_less h.2.1 ho hs, dt_less h.2.2 ho hs⟩
  | bool b => trivial
  | none => trivial
  | one d => exact dt_less (d := d) h ho hs
theorem nil_in {T : List (Addr × Obj)} : ∀ p ∈ ([] : List (Addr × Obj)), p ∈ T := fun _ h => nomatch h
theorem sub_at {l T : List (Addr × Obj)} {p : Addr × Obj} (hp : p ∈ l) (h : ∀ p ∈ l, p ∈ T) : p ∈ T := h p hp
--MAC
local macro_rules | `(tactic| k_flat) => `(tactic| first | exact List.Mem.head _ | (refine List.mem_cons_of_mem _ ?_; k_flat) | ((fail_if_success refine List.mem_cons_of_mem _ ?_); first | with_reducible assumption | (refine List.mem_append_right _ ?_; k_flat) | (refine List.mem_append_left _ ?_; k_flat)))
local macro_rules | `(tactic| k_tabat) => `(tactic| first | exact fun _ h => h | exact nil_in | (refine cons_in ?_ ?_; k_flat; k_tabat) | (intro p9 h9; k_flat) | (refine app_in ?_ ?_; k_tabat; k_tabat))
local macro_rules | `(tactic| k_typeOf) => `(tactic| first | exact keys_nil | (refine' keys_cons ⟨_, ?h⟩ ?r; (case h => k_flat); (case r => k_typeOf)) | (refine keys_in ?_; k_tabat))
--END
-- a rig: a cursor with its source, its world, the row; and what stands there
structure RP where
  c : CA
  W : WA
  R : List Tk
structure RS where
  σ : CS
  od : Obj
  sp : Nat
  se : Nat
abbrev rled (r : RP) (t : RS) (ex : List (Addr × Obj)) : List (Addr × Obj) := led r.c t.σ (wled r.W t.od ex)
structure RigOk (w : World) (r : RP) (t : RS) (ex : List (Addr × Obj)) : Prop where
  rel : Rel r.R t.sp t.se r.c t.σ ex
  is : WIs w t.sp t.se r.W t.od
  row : WRow r.R r.W ex
  good : ∀ j, (tokAt r.R j).ans.good ex
-- what may turn in a is none of its others, none of b
structure Two (a b : RP) : Prop where
  w1 : a.W.wd ≠ a.c.dc ∧ a.W.wd ≠ a.c.ds ∧ a.W.wd ≠ a.c.la
  w2 : a.W.lr ≠ a.c.dc ∧ a.W.lr ≠ a.c.ds ∧ a.W.lr ≠ a.c.la
  w3 : a.c.xc ≠ a.W.wd ∧ a.c.xs ≠ a.W.wd ∧ a.c.lt ≠ a.W.wd
  b : ∀ x ∈ [b.c.xc, b.c.dc, b.c.la, b.c.xs, b.c.ds, b.c.lt, b.W.wd, b.W.lr], x ≠ a.c.dc ∧ x ≠ a.c.ds ∧ x ≠ a.c.la ∧ x ≠ a.W.wd
theorem rled_mem {r : RP} {t : RS} {ex : List (Addr × Obj)} {p : Addr × Obj} (hp : p ∈ rled r t ex) : p.1 ∈ [r.c.xc, r.c.dc, r.c.la, r.c.xs, r.c.ds, r.c.lt, r.W.wd, r.W.lr] ∨ p ∈ ex := by
  simp only [rled, led, wled, List.mem_cons] at hp
  rcases hp with rfl | rfl | rfl | rfl | rfl | rfl | rfl | rfl | hp <;> first | exact .inr hp | (refine .inl ?_; simp)
theorem Two.apart {a b : RP} {od : Obj} {tb : RS} {ex : List (Addr × Obj)} (T : Two a b) (A : Apart a.c ex) : Apart a.c (wled a.W od (rled b tb ex)) := by
  have h : ∀ p ∈ wled a.W od (rled b tb ex), p.1 ≠ a.c.dc ∧ p.1 ≠ a.c.ds ∧ p.1 ≠ a.c.la := fun p hp => by
    rcases List.mem_cons.mp hp with rfl | hp
    · exact T.w1
    rcases List.mem_cons.mp hp with rfl | hp
    · exact T.w2
    rcases rled_mem hp with hp | hp
    · exact ⟨(T.b _ hp).1, (T.b _ hp).2.1, (T.b _ hp).2.2.1⟩
    · exact ⟨A.a1 p hp, A.a2 p hp, A.a3 p hp⟩
  exact ⟨A.l, fun p hp => (h p hp).1, fun p hp => (h p hp).2.1, fun p hp => (h p hp).2.2⟩
theorem Two.wd {a b : RP} {σ : CS} {tb : RS} {ex : List (Addr × Obj)} (T : Two a b) (A : ∀ p ∈ ex, p.1 ≠ a.W.wd) : ∀ p ∈ led a.c σ (rled b tb ex), p.1 ≠ a.W.wd := fun p hp => by
  simp only [led, List.mem_cons] at hp
  rcases hp with rfl | rfl | rfl | rfl | rfl | rfl | hp
  · exact T.w3.1
  · exact T.w1.1.symm
  · exact T.w1.2.2.symm
  · exact T.w3.2.1
  · exact T.w1.2.1.symm
  · exact T.w3.2.2
  · have h : p.1 ∈ [b.c.xc, b.c.dc, b.c.la, b.c.xs, b.c.ds, b.c.lt, b.W.wd, b.W.lr] ∨ p ∈ ex := rled_mem (t := tb) (by simpa only [rled, led, wled, List.mem_cons] using hp)
    exact h.elim (fun h => (T.b _ h).2.2.2) (A p)
theorem RigOk.more {w : World} {r : RP} {t : RS} {ex ex2 : List (Addr × Obj)} (D : RigOk w r t ex) (s : ∀ p ∈ ex, p ∈ ex2) (A : Apart r.c ex2) (hw : ∀ p ∈ ex2, p.1 ≠ r.W.wd) : RigOk w r t ex2 :=
  ⟨D.rel.more s A, D.is, ⟨D.row.len, fun i v t a b => (D.row.at' i v t a b).mono s, D.row.lr, hw⟩, fun j => Ans.good_mono (D.good j) s⟩
-- what is far from the ledger may join it
theorem RigOk.app {w : World} {r : RP} {t : RS} {ex ex' l : List (Addr × Obj)} (D : RigOk w r t ex) (fr : Far ex' l) (h1 : ∃ o, (r.c.dc, o) ∈ l) (h2 : ∃ o, (r.c.ds, o) ∈ l) (h3 : ∃ o, (r.c.la, o) ∈ l) (h4 : ∃ o, (r.W.wd, o) ∈ l) : RigOk w r t (ex ++ ex') := by
  have f : ∀ x, (∃ o, (x, o) ∈ l) → ∀ p ∈ ex', p.1 ≠ x := fun x ⟨o, ho⟩ p hp => fr p hp _ ho
  have A := D.rel.apart
  exact D.more sub_app ⟨A.l, fun p hp => (List.mem_append.mp hp).elim (A.a1 p) (f _ h1 p), fun p hp => (List.mem_append.mp hp).elim (A.a2 p) (f _ h2 p), fun p hp => (List.mem_append.mp hp).elim (A.a3 p) (f _ h3 p)⟩ fun p hp => (List.mem_append.mp hp).elim (D.row.wd p) (f _ h4 p)
theorem rig_mem {r : RP} {t : RS} {ex : List (Addr × Obj)} : (∃ o, (r.c.dc, o) ∈ rled r t ex) ∧ (∃ o, (r.c.ds, o) ∈ rled r t ex) ∧ (∃ o, (r.c.la, o) ∈ rled r t ex) ∧ ∃ o, (r.W.wd, o) ∈ rled r t ex :=
  ⟨⟨_, .tail _ (.head _)⟩, ⟨_, .tail _ (.tail _ (.tail _ (.tail _ (.head _))))⟩, ⟨_, .tail _ (.tail _ (.head _))⟩, ⟨_, .tail _ (.tail _ (.tail _ (.tail _ (.tail _ (.tail _ (.head _))))))⟩⟩
theorem rled_in {r : RP} {t : RS} {ex : List (Addr × Obj)} {p : Addr × Obj} (hp : p ∈ ex) : p ∈ rled r t ex := .tail _ (.tail _ (.tail _ (.tail _ (.tail _ (.tail _ (.tail _ (.tail _ hp)))))))
theorem Far.mono {l l₁ l₂ : List (Addr × Obj)} (h : Far l l₁) (s : ∀ p ∈ l₂, ∃ o, (p.1, o) ∈ l₁) : Far l l₂ := fun p hp q hq => let ⟨o, ho⟩ := s q hq; h p hp (q.1, o) ho
-- two rigs, the ledger, and what may turn in it
structure Rigs (w : World) (a b : RP) (ta tb : RS) (ex : List (Addr × Obj)) : Prop where
  oka : RigOk w a ta ex
  okb : RigOk w b tb ex
  ab : Two a b
  ba : Two b a
theorem RigOk.less {w : World} {r : RP} {t : RS} {l o ex : List (Addr × Obj)} (D : RigOk w r t l) (ho : Other o) (hs : ∀ p ∈ l, p ∈ o ∨ p ∈ ex) (he : ∀ p ∈ ex, p ∈ l) : RigOk w r t ex :=
  ⟨rel_less D.rel ho hs he, D.is, ⟨D.row.len, fun i v t a b => ans_less (D.row.at' i v t a b) ho hs, D.row.lr, fun p hp => D.row.wd p (he p hp)⟩, fun j => good_less (D.good j) ho hs⟩
theorem Rigs.less {w : World} {a b : RP} {ta tb : RS} {l o ex : List (Addr × Obj)} (D : Rigs w a b ta tb l) (ho : Other o) (hs : ∀ p ∈ l, p ∈ o ∨ p ∈ ex) (he : ∀ p ∈ ex, p ∈ l) : Rigs w a b ta tb ex :=
  ⟨D.oka.less ho hs he, D.okb.less ho hs he, D.ab, D.ba⟩
theorem Rigs.swap {w : World} {a b : RP} {ta tb : RS} {ex : List (Addr × Obj)} (D : Rigs w a b ta tb ex) : Rigs w b a tb ta ex := ⟨D.okb, D.oka, D.ba, D.ab⟩
theorem rled_swap {a b : RP} {ta tb : RS} {ex : List (Addr × Obj)} : ∀ p ∈ rled a ta (rled b tb ex), p ∈ rled b tb (rled a ta ex) := by
  intro p hp
  refine sub_at hp ?_; k_tabat
theorem Rigs.app {w : World} {a b : RP} {ta tb : RS} {ex ex' : List (Addr × Obj)} (D : Rigs w a b ta tb ex) (fr : Far ex' (rled a ta (rled b tb ex))) : Rigs w a b ta tb (ex ++ ex') := by
  have h1 := rig_mem (r := a) (t := ta) (ex := rled b tb ex)
  have h2 := rig_mem (r := b) (t := tb) (ex := rled a ta ex)
  refine ⟨D.oka.app fr h1.1 h1.2.1 h1.2.2.1 h1.2.2.2, D.okb.app (fr.mono fun p hp => ⟨_, rled_swap p hp⟩) h2.1 h2.2.1 h2.2.2.1 h2.2.2.2, D.ab, D.ba⟩
section
variable {w : World} {dp un : Nat} {gd : Option (List Code)} {cn : Str} {cs : Scope} {a' : Addr} {ccd : Value} {cl : List (Str × Addr)} {A₀ : Around} {h₀ : Heap} {L : Addr} {m : Str → Option Value} {s : Shared} {E : Value → Shared → Prop}
  {p : Program} {loose : List Str} {mean : ExcName → Option Value} {mg mb : Str → Option Value} {Q : Value → Shared → Prop}
theorem due_rig (k : Sr) {a b : RP} {ta tb : RS} {ex : List (Addr × Obj)} {x : Str} {nn : Nat} {t1 t2 t3 : Tok}
    (B : Below A₀ h₀ [] h₀) (F : Fr h₀ L s.heap m) (X : (hd.heap_1 w.params).In h₀) (N : News h₀ L s.heap (rled a ta (rled b tb ex))) (T : Top p loose mean mg mb h₀) (hk : cs.kind = .function) (hd : dp + 24 < 600) (hu : un + 200 < 2000)
    (D : Rigs w a b ta tb ex) (hse : ta.se < 900) (hn : nn ≤ 3)
    (ret : ∀ r h' tk' od' ex', Fr h₀ L h' m → News h₀ L h' (rled a { ta with od := od' } (rled b tb (ex ++ ex'))) → Rigs w a b ta tb (ex ++ ex') → Far ex' (rled a ta (rled b tb ex)) → WIs w (k.sp a.R ta.sp x) (k.se a.R ta.sp ta.se nn x) a.W od' → AnsIs (ex ++ ex') r (k.ans a.R ta.sp nn x) → Q r { s with heap := h', toks := tk' }) :
    wpAny (model PySem.Challenge.rw_sj0029_01.row.prog w) (ktrTop dp un gd cn cs L a' ccd cl []) (call (.ref 236) [.ref a.W.wd, .str k.str t1, .int nn t2, .str x t3]) Q E s := by
  have Da := D.oka
  refine due_all k B F X (W := a.W) (od := ta.od) (ex := led a.c ta.σ (rled b tb ex)) (news_sub N fun p hp => ?_) T hk hd hu Da.is ⟨Da.row.len, fun i v t h1 h2 => (Da.row.at' i v t h1 h2).mono fun p hp => in_led (rled_in hp), Da.row.lr, D.ab.wd Da.row.wd⟩ Da.rel.ok Da.rel.le hse Da.rel.rl hn ?_
  · refine sub_at hp ?_; k_tabat
  intro r h' tk' od' ex' F' N' fr is' an
  have fr2 : Far ex' (rled a ta (rled b tb ex)) := fr.mono fun p hp => ⟨p.2, by
    refine sub_at hp ?_; k_tabat⟩
  refine ret r h' tk' od' ex' F' (news_sub N' fun p hp => ?_) (D.app fr2) fr2 is' (ans_less an (other_app (other_led a.c ta.σ) (other_app (other_led b.c tb.σ) (other_wled D.okb.is))) fun p hp => ?_)
  · refine sub_at hp ?_; k_tabat
  · refine List.mem_append.mp ?_; refine sub_at hp ?_; k_tabat
theorem told_rig (k : Sr) {a b : RP} {ta tb : RS} {od' : Obj} {ex : List (Addr × Obj)} {x : Str} {nn : Nat} {t1 t2 t3 : Tok}
    (B : Below A₀ h₀ [] h₀) (F : Fr h₀ L s.heap m) (X : (hd.heap_1 w.params).In h₀) (N : News h₀ L s.heap (rled a { ta with od := od' } (rled b tb ex))) (T : Top p loose mean mg mb h₀) (hk : cs.kind = .function) (hd : dp + 24 < 600) (hu : un + 200 < 2000)
    (D : Rigs w a b ta tb ex) (hse : ta.se < 900) (hn : nn ≤ 3) (is' : WIs w (k.sp a.R ta.sp x) (k.se a.R ta.sp ta.se nn x) a.W od')
    (ret : ∀ r h' tk' σ' ex', Fr h₀ L h' m → News h₀ L h' (rled a ⟨σ', od', k.sp a.R ta.sp x, k.se a.R ta.sp ta.se nn x⟩ (rled b tb (ex ++ ex'))) → Rigs w a b ⟨σ', od', k.sp a.R ta.sp x, k.se a.R ta.sp ta.se nn x⟩ tb (ex ++ ex') → Far ex' (rled a ta (rled b tb ex)) → AnsIs (ex ++ ex') r (k.ans a.R ta.sp nn x) → Q r { s with heap := h', toks := tk' }) :
    wpAny (model PySem.Challenge.rw_sj0029_01.row.prog w) (ktrTop dp un gd cn cs L a' ccd cl []) (call (.ref 243) [.ref a.c.xc, .str k.str t1, .int nn t2, .str x t3]) Q E s := by
  have Da := D.oka
  refine told_all k B F X (c := a.c) (σ := ta.σ) (ex := wled a.W od' (rled b tb ex)) N T hk hd hu (Da.rel.more (fun p hp => .tail _ (.tail _ (rled_in hp))) (D.ab.apart Da.rel.apart)) hse hn ?_
  intro r h' tk' σ' ex' F' N' fr rel' an
  have ho := other_app (other_wled is') (other_app (other_led b.c tb.σ) (other_wled D.okb.is))
  have hs : ∀ p ∈ wled a.W od' (rled b tb ex) ++ ex', p ∈ wled a.W od' [] ++ (led b.c tb.σ [] ++ wled b.W tb.od []) ∨ p ∈ ex ++ ex' := fun p hp => by
    refine List.mem_append.mp ?_; refine sub_at hp ?_; k_tabat
  have fr2 : Far ex' (rled a ta (rled b tb ex)) := (fr.mono fun p hp => by
    revert hp; revert p; k_typeOf)
  have D2 := D.app fr2
  refine ret r h' tk' σ' ex' F' (news_sub N' fun p hp => ?_) ⟨⟨rel_less rel' ho hs fun p hp => ?_, is', D2.oka.row, D2.oka.good⟩, D2.okb, D.ab, D.ba⟩ fr2 (ans_less an ho hs)
  · refine sub_at hp ?_; k_tabat
  · refine sub_at hp ?_; k_tabat
theorem stands_rig {a b : RP} {ta tb : RS} {ex : List (Addr × Obj)}
    (B : Below A₀ h₀ [] h₀) (F : Fr h₀ L s.heap m) (X : (hd.heap_1 w.params).In h₀) (N : News h₀ L s.heap (rled a ta (rled b tb ex))) (T : Top p loose mean mg mb h₀) (hk : cs.kind = .function) (hd : dp + 24 < 600) (hu : un + 200 < 2000)
    (D : Rigs w a b ta tb ex) (hse : ta.se < 24)
    (ret : ∀ h' tk', Fr h₀ L h' m → News h₀ L h' (rled a ta (rled b tb ex)) → Q (.bool true) { s with heap := h', toks := tk' }) :
    wpAny (model PySem.Challenge.rw_sj0029_01.row.prog w) (ktrTop dp un gd cn cs L a' ccd cl []) (call (.ref 250) [.ref a.c.xc, .ref a.c.xs, .ref a.W.wd]) Q E s := by
  have Da := D.oka
  have A := D.ab.apart (od := ta.od) (tb := tb) Da.rel.apart
  exact stands_in B F X (c := a.c) (σ := ta.σ) (W := a.W) (od := ta.od) (ex := rled b tb ex) N T hk hd hu (Da.rel.more (fun p hp => rled_in hp) ⟨A.l, fun p hp => A.a1 p (.tail _ (.tail _ hp)), fun p hp => A.a2 p (.tail _ (.tail _ hp)), fun p hp => A.a3 p (.tail _ (.tail _ hp))⟩) Da.is
    ⟨Da.row.len, fun i v t h1 h2 => (Da.row.at' i v t h1 h2).mono fun p hp => rled_in hp, Da.row.lr, fun p hp => D.ab.wd (σ := ta.σ) Da.row.wd p (in_led hp)⟩ hse (fun j => Ans.good_mono (Da.good j) fun p hp => rled_in hp) ret
end
theorem FOk.push {f : FA} {φ : FS} {ex : List (Addr × Obj)} {z : Nat} {o : Obj} (D : FOk f φ ex) (h1 : f.fa < z) (h2 : f.cl < z) : FOk f φ ((z, o) :: ex) :=
  ⟨D.iv, D.len, D.ne, fun p hp => (List.mem_cons.mp hp).elim (fun e => by rw [e]; exact Nat.ne_of_gt h1) (D.a1 p), fun p hp => (List.mem_cons.mp hp).elim (fun e => by rw [e]; exact Nat.ne_of_gt h2) (D.a2 p)⟩
theorem FOk.keys {f : FA} {φ : FS} {ex ex2 : List (Addr × Obj)} (D : FOk f φ ex) (h : ∀ p ∈ ex2, ∃ o, (p.1, o) ∈ ex) : FOk f φ ex2 :=
  ⟨D.iv, D.len, D.ne, fun p hp => let ⟨o, ho⟩ := h p hp; D.a1 (p.1, o) ho, fun p hp => let ⟨o, ho⟩ := h p hp; D.a2 (p.1, o) ho⟩
theorem front5 {h₀ h : Heap} {L : Addr} {f : FA} {φ : FS} {ex : List (Addr × Obj)} {a b c d e : Addr × Obj} (N : News h₀ L h (a :: b :: c :: d :: e :: fled f φ ex)) : News h₀ L h (fled f φ (e :: d :: c :: a :: b :: ex)) := news_sub N fun p hp => by
  refine sub_at hp ?_; k_tabat
-- behind _law_row: the ledger in the order of the walk, and what is apart
theorem mid5 {h₀ h : Heap} {L : Addr} {f : FA} {φ φ' : FS} {X new : List (Addr × Obj)} {wo so cu it tu lr z0 : Nat} {o1 o2 o3 o4 o5 o6 : Obj} (N : News h₀ L h (fled f φ' ((lr, o6) :: (new ++ ((wo, o1) :: (so, o2) :: (cu, o3) :: (it, o4) :: (tu, o5) :: X)))))
    (hz : ∀ q ∈ fled f φ ((wo, o1) :: (so, o2) :: (cu, o3) :: (it, o4) :: (tu, o5) :: X), q.1 < z0) (hnew : ∀ p ∈ new, z0 ≤ p.1 ∧ p.1 ≠ lr) (hlr : z0 ≤ lr) (hX : ∀ p ∈ X, p.1 ≠ wo ∧ p.1 ≠ so ∧ p.1 ≠ cu ∧ p.1 ≠ it) :
    News h₀ L h ((wo, o1) :: (so, o2) :: (cu, o3) :: (lr, o6) :: (it, o4) :: (tu, o5) :: fled f φ' (new ++ X)) ∧ (@LT.lt Nat _ wo lr ∧ @LT.lt Nat _ so lr ∧ @LT.lt Nat _ cu lr ∧ @LT.lt Nat _ it lr ∧ @LT.lt Nat _ tu lr ∧ @LT.lt Nat _ f.fa lr ∧ @LT.lt Nat _ f.cl lr) ∧
      (∀ p ∈ new ++ X, p.1 ≠ wo ∧ p.1 ≠ so ∧ p.1 ≠ cu ∧ p.1 ≠ it) := by
  have m1 := hz (wo, o1) (.tail _ (.tail _ (.head _)))
  have m2 := hz (so, o2) (.tail _ (.tail _ (.tail _ (.head _))))
  have m3 := hz (cu, o3) (.tail _ (.tail _ (.tail _ (.tail _ (.head _)))))
  have m4 := hz (it, o4) (.tail _ (.tail _ (.tail _ (.tail _ (.tail _ (.head _))))))
  have m5 := hz (tu, o5) (.tail _ (.tail _ (.tail _ (.tail _ (.tail _ (.tail _ (.head _)))))))
  have m6 := hz _ (.head _)
  have m7 := hz _ (.tail _ (.head _))
  refine ⟨news_sub N fun p hp => ?_, ⟨Nat.lt_of_lt_of_le m1 hlr, Nat.lt_of_lt_of_le m2 hlr, Nat.lt_of_lt_of_le m3 hlr, Nat.lt_of_lt_of_le m4 hlr, Nat.lt_of_lt_of_le m5 hlr, Nat.lt_of_lt_of_le m6 hlr, Nat.lt_of_lt_of_le m7 hlr⟩,
    fun p hp => (List.mem_append.mp hp).elim (fun h => ⟨Nat.ne_of_gt (Nat.lt_of_lt_of_le m1 (hnew p h).1), Nat.ne_of_gt (Nat.lt_of_lt_of_le m2 (hnew p h).1), Nat.ne_of_gt (Nat.lt_of_lt_of_le m3 (hnew p h).1), Nat.ne_of_gt (Nat.lt_of_lt_of_le m4 (hnew p h).1)⟩) (hX p)⟩
  refine sub_at hp ?_; k_tabat
-- the tokens of a row, made one by one
def TokJ (base : List (Addr × Obj)) (lr : Nat) (R : List Tk) (i : Nat) (ys : List Value) (nx : List (Addr × Obj)) : Prop :=
  ∃ tl, nx = tl ++ base ∧ ys.length = i ∧ (∀ p ∈ tl, @LT.lt Nat _ lr p.1) ∧ ∀ (j : Nat) (v : Value) (t : Tk), ys[j]? = some v → R[j]? = some t → TokOf tl v t
theorem tokJ_nil {h₀ h : Heap} {L : Addr} {wd : Nat} {od : Obj} {base : List (Addr × Obj)} {R : List Tk} (_ : News h₀ L h ((wd, od) :: base)) : TokJ ((wd, od) :: base) wd R 0 [] ((wd, od) :: base) := ⟨[], rfl, rfl, (fun _ h => nomatch h), fun _ _ _ h => by simp at h⟩
theorem row_item {new : List (Addr × Obj)} {vals : List Value} {R : List Tk} {i : Nat} {v : Value} (H : RowOf new vals R) (hv : vals[i]? = some v) : ∃ t, R[i]? = some t ∧ ∃ y va vb vc, v = .ref y ∧ (y, tup3 va vb vc) ∈ new ∧ (∃ u, va = .str t.kd u) ∧ t.val.dt.Is vb ∧ ∃ u, vc = .int t.at' u := by
  have hi : i < vals.length := (List.getElem?_eq_some_iff.mp hv).1
  refine ⟨R[i]'(by rw [← H.len]; exact hi), List.getElem?_eq_getElem _, ?_⟩
  obtain ⟨y, va, vb, vc, e, hm, h1, h2, h3⟩ := H.at' i v _ hv (List.getElem?_eq_getElem (by rw [← H.len]; exact hi))
  exact ⟨y, va, vb, vc, e, hm, h1, h2, h3⟩
theorem vl_is {v : Vl} {vv : Value} (h : v.dt.Is vv) : v.Is vv := by cases v <;> exact h
theorem wis_of {w : World} {h₀ h : Heap} {L : Addr} {wd lr : Nat} {od : Obj} {rest : List (Addr × Obj)} (vals : List Value) (nn : Nat) {t1 t2 : Tok} (_ : News h₀ L h ((wd, od) :: rest))
    (hD : od.IsDictOf (PySem.strKind PySem.Challenge.rw_sj0029_01.row.prog w) [(Str.ofString "row", .ref lr), (Str.ofString "spot", .int 0 t1), (Str.ofString "seen", .int 0 t2)]) : WIs w 0 0 ⟨wd, lr, vals, nn⟩ od := ⟨t1, t2, hD⟩
open LCg in
theorem tok_turn_end {h₀ h' : Heap} {L : Addr} {m : Str → Option Value} {s₁ : Shared} {I C D : Addr} {oI oC od : Obj} {ys : List Value} {base tl : List (Addr × Obj)} {wd : Nat} {R : List Tk} {i x d tk : Nat} {t : Tk} {q : Q3} {u1 u3 : Tok} {vb : Value}
    (F : Fr h₀ L h' m) (N : News h₀ L h' ((x, instObj 64 d) :: (d, tkD q t.kd u1 vb t.at' u3) :: (I, oI) :: (C, oC) :: (D, lst ys) :: (tl ++ base))) (l1 : @LT.lt Nat _ I d ∧ @LT.lt Nat _ C d ∧ @LT.lt Nat _ D d ∧ AllLt d (tl ++ base)) (l2 : @LT.lt Nat _ d x)
    (off : Off3 I C D (tl ++ base)) (hyl : ys.length = i) (hlt : ∀ p ∈ tl, @LT.lt Nat _ wd p.1) (htl : ∀ (j : Nat) (v : Value) (t : Tk), ys[j]? = some v → R[j]? = some t → TokOf tl v t) (hRt : R[i]? = some t) (hvb : t.val.dt.Is vb) (hw : (wd, od) ∈ base) :
    CompEnd h₀ L m s₁ I oI C oC D (lst ys) (fun _ => True) (fun r nx' => TokJ base wd R (i + 1) (ys ++ [r]) nx') (.ref x) { s₁ with heap := h', toks := tk } := by
  have hwd : @LT.lt Nat _ wd d := allLt_mem l1.2.2.2 _ (List.mem_append_right _ hw)
  refine CompEnd.intro F N ((x, instObj 64 d) :: (d, tkD q t.kd u1 vb t.at' u3) :: (tl ++ base)) (fun p hp => ?_)
    ⟨⟨Nat.ne_of_gt (Nat.lt_trans l1.1 l2), Nat.ne_of_gt (Nat.lt_trans l1.2.1 l2), Nat.ne_of_gt (Nat.lt_trans l1.2.2.1 l2)⟩, ⟨Nat.ne_of_gt l1.1, Nat.ne_of_gt l1.2.1, Nat.ne_of_gt l1.2.2.1⟩, off⟩ trivial
    ⟨(x, instObj 64 d) :: (d, tkD q t.kd u1 vb t.at' u3) :: tl, rfl, by simp [hyl], fun p hp => ?_, fun j v t' a b => ?_⟩
  · refine sub_at hp ?_; k_tabat
  · rcases List.mem_cons.mp hp with rfl | hp
    · exact Nat.lt_trans hwd l2
    rcases List.mem_cons.mp hp with rfl | hp
    · exact hwd
    · exact hlt p hp
  · rw [List.getElem?_append] at a
    split at a
    · exact (htl j v t' a b).mono fun p hp => .tail _ (.tail _ hp)
    · rename_i hj
      have e : j - ys.length = 0 := by
        cases q : j - ys.length with
        | zero => rfl
        | succ z => rw [q] at a; simp at a
      rw [e] at a
      cases a
      have ej : j = i := by omega
      rw [ej, hRt] at b
      cases b
      exact ⟨x, d, q, u1, vb, u3, rfl, .head _, .tail _ (.head _), vl_is hvb⟩
-- no token among l
def NoTok (l : List (Addr × Obj)) : Prop := ∀ p ∈ l, (∀ dx, p.2 ≠ instObj 64 dx) ∧ ∀ q kd t1 vv i t3, p.2 ≠ tkD q kd t1 vv i t3
theorem noTok_other {l : List (Addr × Obj)} (h : Other l) : NoTok l := fun p hp => ⟨(h p hp).1, (h p hp).2.1⟩
theorem noTok_cons {l : List (Addr × Obj)} {z : Nat} {o : Obj} {x : String} (h : o.cls = .type x) (hx : (x == "dict") = false) (r : NoTok l) : NoTok ((z, o) :: l) := fun p hp => by
  rcases List.mem_cons.mp hp with rfl | hp
  · refine ⟨fun dx e => ?_, fun q kd t1 vv i t3 e => ?_⟩
    · rw [show o = _ from e] at h; cases h
    · rw [show o = _ from e] at h; exact type_ne hx h.symm
  · exact r p hp
theorem noTok_nil : NoTok [] := fun _ h => nomatch h
theorem noTok_app {l l' : List (Addr × Obj)} (h : NoTok l) (h' : NoTok l') : NoTok (l ++ l') := fun p hp => (List.mem_append.mp hp).elim (h p) (h' p)
theorem tok_less2 {l o ex : List (Addr × Obj)} {v : Value} {t : Tk} (h : TokOf l v t) (ho : NoTok o) (hs : ∀ p ∈ l, p ∈ o ∨ p ∈ ex) : TokOf ex v t := by
  obtain ⟨x, dx, q, t1, vv, t3, hr, m1, m2, hv⟩ := h
  exact ⟨x, dx, q, t1, vv, t3, hr, (hs _ m1).elim (fun z => absurd rfl ((ho _ z).1 dx)) id, (hs _ m2).elim (fun z => absurd rfl ((ho _ z).2 _ _ _ _ _ _)) id, hv⟩
theorem rel_less2 {R : List Tk} {sp se : Nat} {c : CA} {σ : CS} {l o ex : List (Addr × Obj)} (D : Rel R sp se c σ l) (ho : NoTok o) (hs : ∀ p ∈ l, p ∈ o ∨ p ∈ ex) (he : ∀ p ∈ ex, p ∈ l) : Rel R sp se c σ ex :=
  ⟨D.le, D.top, D.rl, D.ok, D.pl, D.hs, D.b, tok_less2 D.tv ho hs, D.i, D.len, fun j v q => tok_less2 (D.ah j v q) ho hs, ⟨D.row.1, fun i v t a b => tok_less2 (D.row.2 i v t a b) ho hs⟩,
    ⟨D.apart.l, fun p hp => D.apart.a1 p (he p hp), fun p hp => D.apart.a2 p (he p hp), fun p hp => D.apart.a3 p (he p hp)⟩⟩
theorem row_good {new : List (Addr × Obj)} {vals : List Value} {R : List Tk} (H : RowOf new vals R) (j : Nat) : (tokAt R j).ans.good new := by
  unfold tokAt
  rw [List.getD_eq_getElem?_getD]
  cases q : R[j]? with
  | none => exact ⟨show PyData.strOk "eof" = true by decide +kernel, show PyData.strOk "" = true by decide +kernel, trivial⟩
  | some t => exact H.good t (List.mem_of_getElem? q)
theorem off1_mem {D : Addr} {l : List (Addr × Obj)} (h : LCg.Off1 D l) : ∀ p ∈ l, p.1 ≠ D := by
  induction l with
  | nil => intro p hp; cases hp
  | cons q r ih =>
    intro p hp
    rcases List.mem_cons.mp hp with rfl | hp
    · exact h.1
    · exact ih h.2 p hp
-- behind the comprehension: the ledger in the order of the walk
theorem mid8 {h₀ h : Heap} {L : Addr} {f : FA} {φ : FS} {tl Y : List (Addr × Obj)} {wo so cu it tu lr wd D : Nat} {o1 o2 o3 o4 o5 o6 od : Obj} {ys : List Value}
    (N : News h₀ L h ((D, LCg.lst ys) :: (tl ++ ((wd, od) :: (wo, o1) :: (so, o2) :: (cu, o3) :: (lr, o6) :: (it, o4) :: (tu, o5) :: fled f φ Y))))
    (hD : ∀ p ∈ (wd, od) :: (wo, o1) :: (so, o2) :: (cu, o3) :: (lr, o6) :: (it, o4) :: (tu, o5) :: fled f φ Y, @LT.lt Nat _ p.1 D) (off : LCg.Off1 D (tl ++ ((wd, od) :: (wo, o1) :: (so, o2) :: (cu, o3) :: (lr, o6) :: (it, o4) :: (tu, o5) :: fled f φ Y)))
    (hw : @LT.lt Nat _ wo wd ∧ @LT.lt Nat _ so wd ∧ @LT.lt Nat _ cu wd) (hlt : ∀ p ∈ tl, @LT.lt Nat _ wd p.1) (a1 : ∀ p ∈ Y, p.1 ≠ wo) (a2 : ∀ p ∈ Y, p.1 ≠ so) (a3 : ∀ p ∈ Y, p.1 ≠ cu) :
    News h₀ L h ((wo, o1) :: (so, o2) :: (cu, o3) :: (D, listOf ys.toArray ys.length) :: (wd, od) :: (lr, o6) :: (it, o4) :: (tu, o5) :: fled f φ (tl ++ Y)) ∧
      (@LT.lt Nat _ wo D ∧ @LT.lt Nat _ so D ∧ @LT.lt Nat _ cu D ∧ @LT.lt Nat _ wd D ∧ @LT.lt Nat _ lr D ∧ @LT.lt Nat _ it D ∧ @LT.lt Nat _ tu D ∧ @LT.lt Nat _ f.fa D ∧ @LT.lt Nat _ f.cl D) ∧
      (∀ p ∈ tl ++ Y, p.1 ≠ wo) ∧ (∀ p ∈ tl ++ Y, p.1 ≠ so) ∧ (∀ p ∈ tl ++ Y, p.1 ≠ cu) ∧ (∀ p ∈ tl ++ Y, p.1 ≠ D) := by
  refine ⟨news_sub N fun p hp => ?_, ⟨hD (wo, o1) (.tail _ (.head _)), hD (so, o2) (.tail _ (.tail _ (.head _))), hD (cu, o3) (.tail _ (.tail _ (.tail _ (.head _)))), hD (wd, od) (.head _), hD (lr, o6) (.tail _ (.tail _ (.tail _ (.tail _ (.head _))))),
      hD (it, o4) (.tail _ (.tail _ (.tail _ (.tail _ (.tail _ (.head _)))))), hD (tu, o5) (.tail _ (.tail _ (.tail _ (.tail _ (.tail _ (.tail _ (.head _))))))), hD _ (.tail _ (.tail _ (.tail _ (.tail _ (.tail _ (.tail _ (.tail _ (.head _)))))))),
      hD _ (.tail _ (.tail _ (.tail _ (.tail _ (.tail _ (.tail _ (.tail _ (.tail _ (.head _)))))))))⟩,
    fun p hp => (List.mem_append.mp hp).elim (fun h => Nat.ne_of_gt (Nat.lt_trans hw.1 (hlt p h))) (a1 p), fun p hp => (List.mem_append.mp hp).elim (fun h => Nat.ne_of_gt (Nat.lt_trans hw.2.1 (hlt p h))) (a2 p),
    fun p hp => (List.mem_append.mp hp).elim (fun h => Nat.ne_of_gt (Nat.lt_trans hw.2.2 (hlt p h))) (a3 p), fun p hp => (List.mem_append.mp hp).elim (fun h => off1_mem off p (List.mem_append_left _ h)) fun h => Nat.ne_of_lt (hD p (.tail _ (.tail _ (.tail _ (.tail _ (.tail _ (.tail _ (.tail _ (.tail _ (.tail _ h))))))))))⟩
  refine sub_at hp ?_; k_tabat
-- in what order a rig's places came
structure Ord (f : FA) (new X tl : List (Addr × Obj)) (wo so cu it tu lr wd D ds xs : Nat) : Prop where
  a : wo < lr ∧ so < lr ∧ cu < lr ∧ it < lr ∧ tu < lr ∧ f.fa < lr ∧ f.cl < lr
  b : lr < wd
  c : wd < D
  d : D < ds
  e : ds < xs
  f : ∀ p ∈ new ++ X, @LT.lt Nat _ p.1 wd
  g : ∀ p ∈ tl, @LT.lt Nat _ wd p.1
-- a rig is apart in itself
structure In1 (a : RP) : Prop where
  w1 : a.W.wd ≠ a.c.dc ∧ a.W.wd ≠ a.c.ds ∧ a.W.wd ≠ a.c.la
  w2 : a.W.lr ≠ a.c.dc ∧ a.W.lr ≠ a.c.ds ∧ a.W.lr ≠ a.c.la
  w3 : a.c.xc ≠ a.W.wd ∧ a.c.xs ≠ a.W.wd ∧ a.c.lt ≠ a.W.wd
abbrev RP.keys (r : RP) : List Nat := [r.c.xc, r.c.dc, r.c.la, r.c.xs, r.c.ds, r.c.lt, r.W.wd, r.W.lr]
theorem two_of {a b : RP} {z : Nat} (A : In1 a) (h1 : ∀ x ∈ a.keys, x < z) (h2 : ∀ x ∈ b.keys, z ≤ x) : Two a b :=
  ⟨A.w1, A.w2, A.w3, fun x hx => by
    have h := h2 x hx
    have m : ∀ y ∈ a.keys, x ≠ y := fun y hy => Nat.ne_of_gt (Nat.lt_of_lt_of_le (h1 y hy) h)
    exact ⟨m _ (by k_flat), m _ (by k_flat), m _ (by k_flat), m _ (by k_flat)⟩⟩
theorem two_of' {a b : RP} {z : Nat} (B : In1 b) (h1 : ∀ x ∈ a.keys, x < z) (h2 : ∀ x ∈ b.keys, z ≤ x) : Two b a :=
  ⟨B.w1, B.w2, B.w3, fun x hx => by
    have h := h1 x hx
    have m : ∀ y ∈ b.keys, x ≠ y := fun y hy => Nat.ne_of_lt (Nat.lt_of_lt_of_le h (h2 y hy))
    exact ⟨m _ (by k_flat), m _ (by k_flat), m _ (by k_flat), m _ (by k_flat)⟩⟩
theorem noTok_wled {w : World} {sp se : Nat} {W : WA} {od : Obj} (D : WIs w sp se W od) : NoTok (wled W od []) := noTok_other (other_wled D)
theorem noTok_fled {f : FA} {φ : FS} : NoTok (fled f φ []) := noTok_cons rfl (by decide) (noTok_cons rfl (by decide) noTok_nil)
-- the ledger ahead of the cursor's making
theorem cur_pre {h₀ h : Heap} {L : Addr} {f : FA} {φ : FS} {Y : List (Addr × Obj)} {a1 a2 a3 a4 a5 a6 a7 a8 a9 a10 : Addr × Obj} (N : News h₀ L h (a1 :: a2 :: a3 :: a4 :: a5 :: a6 :: a7 :: a8 :: a9 :: a10 :: fled f φ Y)) :
    News h₀ L h (a1 :: a2 :: a6 :: (a5 :: a3 :: a4 :: a9 :: a10 :: fled f φ (a7 :: a8 :: Y))) := news_sub N fun p hp => by
  refine sub_at hp ?_; k_tabat
theorem cur_e1 {f : FA} {φ : FS} {new X tl : List (Addr × Obj)} {wo so cu it tu lr wd D ds xs : Nat} {o1 o2 o3 o4 o5 o6 od : Obj} (O : Ord f new X tl wo so cu it tu lr wd D ds xs) (ht : ∀ p ∈ tl ++ (new ++ X), @LT.lt Nat _ p.1 ds) :
    ∀ p ∈ (cu, o3) :: (wo, o1) :: (so, o2) :: (it, o4) :: (tu, o5) :: fled f φ ((wd, od) :: (lr, o6) :: (tl ++ (new ++ X))), p.1 ≠ ds := by
  have a := O.a
  have b := O.b
  have c := O.c
  have d := O.d
  intro p hp
  simp only [fled, List.mem_cons] at hp
  rcases hp with rfl | rfl | rfl | rfl | rfl | rfl | rfl | rfl | rfl | hp
  iterate 9 (dsimp only; omega)
  exact Nat.ne_of_lt (ht p hp)
theorem rig_made0 {w : World} {h₀ h : Heap} {L : Addr} {f : FA} {φ : FS} {XM XO new tl ex' : List (Addr × Obj)} {wo so cu it tu lr wd D ds xs nn : Nat} {o1 o2 o3 o4 o5 o6 p1 p2 p3 p4 p5 oxs ods oD od : Obj} {vals : List Value} {R : List Tk} {c : CA} {σ : CS}
    (N : News h₀ L h (led c σ (((cu, o3) :: (wo, o1) :: (so, o2) :: (it, o4) :: (tu, o5) :: fled f φ ((wd, od) :: (lr, listOf vals.toArray nn) :: (tl ++ (new ++ (XM ++ XO))))) ++ ex')))
    (Dr : Rel R 0 0 c σ (((cu, o3) :: (wo, o1) :: (so, o2) :: (it, o4) :: (tu, o5) :: fled f φ ((wd, od) :: (lr, listOf vals.toArray nn) :: (tl ++ (new ++ (XM ++ XO))))) ++ ex'))
    (O : Ord f new (XM ++ XO) tl wo so cu it tu lr wd D ds xs) (isW : WIs w 0 0 ⟨wd, lr, vals, nn⟩ od) (hrow : RowOf new vals R) (hX : ∀ p ∈ new ++ (XM ++ XO), p.1 ≠ wo ∧ p.1 ≠ so ∧ p.1 ≠ cu ∧ p.1 ≠ it)
    (DF : FOk f φ ((lr, o6) :: (new ++ ((wo, p1) :: (so, p2) :: (cu, p3) :: (it, p4) :: (tu, p5) :: (XM ++ XO))))) (e1 : c.xs = xs) (e2 : c.ds = ds) (e3 : c.lt = D)
    (fr : Far ex' ((xs, oxs) :: (ds, ods) :: (D, oD) :: ((cu, o3) :: (wo, o1) :: (so, o2) :: (it, o4) :: (tu, o5) :: fled f φ ((wd, od) :: (lr, listOf vals.toArray nn) :: (tl ++ (new ++ (XM ++ XO)))))))
    (lts : ∀ z ∈ xs :: ds :: D :: ((cu, o3) :: (wo, o1) :: (so, o2) :: (it, o4) :: (tu, o5) :: fled f φ ((wd, od) :: (lr, listOf vals.toArray nn) :: (tl ++ (new ++ (XM ++ XO))))).map (·.1), z < c.xc ∧ z < c.dc ∧ z < c.la)
    (n1 : NoTok [(cu, o3), (wo, o1), (so, o2), (it, o4), (tu, o5)]) (nM : NoTok XM) :
    RigOk w ⟨c, ⟨wd, lr, vals, nn⟩, R⟩ ⟨σ, od, 0, 0⟩ (tl ++ (new ++ XO) ++ ex') ∧ In1 ⟨c, ⟨wd, lr, vals, nn⟩, R⟩ ∧ (∀ x ∈ RP.keys ⟨c, ⟨wd, lr, vals, nn⟩, R⟩, lr ≤ x) ∧
      News h₀ L h ((cu, o3) :: (wo, o1) :: (so, o2) :: (it, o4) :: (tu, o5) :: fled f φ (rled ⟨c, ⟨wd, lr, vals, nn⟩, R⟩ ⟨σ, od, 0, 0⟩ (tl ++ (new ++ XO) ++ ex') ++ XM)) ∧
      FOk f φ ((cu, o3) :: (wo, o1) :: (so, o2) :: (it, o4) :: (tu, o5) :: (rled ⟨c, ⟨wd, lr, vals, nn⟩, R⟩ ⟨σ, od, 0, 0⟩ (tl ++ (new ++ XO) ++ ex') ++ XM)) ∧
      (∀ p ∈ rled ⟨c, ⟨wd, lr, vals, nn⟩, R⟩ ⟨σ, od, 0, 0⟩ (tl ++ (new ++ XO) ++ ex') ++ XM, p.1 ≠ wo ∧ p.1 ≠ so ∧ p.1 ≠ cu ∧ p.1 ≠ it) := by
  have a := O.a
  have b := O.b
  have hc := O.c
  have d := O.d
  have e := O.e
  have k1 := lts lr (by k_flat)
  have k2 := lts wd (by k_flat)
  have k3 := lts xs (by k_flat)
  have key : ∀ x ∈ RP.keys ⟨c, ⟨wd, lr, vals, nn⟩, R⟩, lr ≤ x := by
    intro x hx
    simp only [RP.keys, List.mem_cons, List.not_mem_nil, or_false, e1, e2, e3] at hx
    rcases hx with rfl | rfl | rfl | rfl | rfl | rfl | rfl | rfl
    · exact Nat.le_of_lt k1.1
    · exact Nat.le_of_lt k1.2.1
    · exact Nat.le_of_lt k1.2.2
    all_goals omega
  have inl : ∀ {x : Nat} {o : Obj}, (x, o) ∈ ((cu, o3) :: (wo, o1) :: (so, o2) :: (it, o4) :: (tu, o5) :: fled f φ ((wd, od) :: (lr, listOf vals.toArray nn) :: (tl ++ (new ++ (XM ++ XO))))) → ∀ p ∈ ex', p.1 ≠ x := fun {x o} hx p hp => fr p hp (x, o) (.tail _ (.tail _ (.tail _ hx)))
  have rest : ∀ {x : Nat} {o : Obj}, (x, o) ∈ ((cu, o3) :: (wo, o1) :: (so, o2) :: (it, o4) :: (tu, o5) :: fled f φ ((wd, od) :: (lr, listOf vals.toArray nn) :: (tl ++ (new ++ (XM ++ XO))))) → (x < lr) → (∀ p ∈ new ++ (XM ++ XO), p.1 ≠ x) →
      ∀ p ∈ rled ⟨c, ⟨wd, lr, vals, nn⟩, R⟩ ⟨σ, od, 0, 0⟩ (tl ++ (new ++ XO) ++ ex') ++ XM, p.1 ≠ x := fun {x o} hx hl hn p hp => by
    rcases List.mem_append.mp hp with hp | hp
    · rcases rled_mem hp with hp | hp
      · exact Nat.ne_of_gt (Nat.lt_of_lt_of_le hl (key _ hp))
      rcases List.mem_append.mp hp with hp | hp
      · rcases List.mem_append.mp hp with hp | hp
        · exact Nat.ne_of_gt (Nat.lt_trans (Nat.lt_trans hl b) (O.g p hp))
        · refine hn p ?_
          refine sub_at hp ?_; k_tabat
      · exact inl hx p hp
    · exact hn p (List.mem_append_right _ (List.mem_append_left _ hp))
  have hfa := rest (x := f.fa) (o := listOf [.ref f.cl, .int φ.b φ.tb, .int φ.c φ.tc].toArray φ.n) (by k_flat) a.2.2.2.2.2.1 fun p hp => by
    refine DF.a1 p ?_
    refine sub_at hp ?_; k_tabat
  have hcl := rest (x := f.cl) (o := listOf φ.vs.toArray φ.nc) (by k_flat) a.2.2.2.2.2.2 fun p hp => by
    refine DF.a2 p ?_
    refine sub_at hp ?_; k_tabat
  have five : ∀ p ∈ [(cu, o3), (wo, o1), (so, o2), (it, o4), (tu, o5)], ∃ o, (p.1, o) ∈ (lr, o6) :: (new ++ ((wo, p1) :: (so, p2) :: (cu, p3) :: (it, p4) :: (tu, p5) :: (XM ++ XO))) := by
    k_typeOf
  refine ⟨⟨rel_less2 Dr (noTok_app n1 (noTok_app (noTok_fled (f := f) (φ := φ)) (noTok_app (noTok_wled isW) nM))) (fun p hp => ?_) (fun p hp => ?_), isW, ⟨hrow.len, fun i v t h1 h2 => (hrow.at' i v t h1 h2).mono fun p hp => ?_, Nat.ne_of_lt b, fun p hp => ?_⟩, fun j => Ans.good_mono (row_good hrow j) fun p hp => ?_⟩, ?_, key, ?_, ?_, ?_⟩
  · refine List.mem_append.mp ?_; refine sub_at hp ?_; k_tabat
  · refine sub_at hp ?_; k_tabat
  · k_flat
  · rcases List.mem_append.mp hp with hp | hp
    · rcases List.mem_append.mp hp with hp | hp
      · exact Nat.ne_of_gt (O.g p hp)
      · refine Nat.ne_of_lt (O.f p ?_)
        refine sub_at hp ?_; k_tabat
    · exact inl (x := wd) (o := od) (by k_flat) p hp
  · k_flat
  · refine ⟨⟨Nat.ne_of_lt k2.2.1, ?_, Nat.ne_of_lt k2.2.2⟩, ⟨Nat.ne_of_lt k1.2.1, ?_, Nat.ne_of_lt k1.2.2⟩, Nat.ne_of_gt k2.1, ?_, ?_⟩
    · show wd ≠ c.ds; omega
    · show lr ≠ c.ds; omega
    · show c.xs ≠ wd; omega
    · show c.lt ≠ wd; omega
  · refine news_sub N fun p hp => ?_
    refine sub_at hp ?_; k_tabat
  · refine ⟨DF.iv, DF.len, DF.ne, fun p hp => ?_, fun p hp => ?_⟩
    · rcases List.mem_append.mp (show p ∈ [(cu, o3), (wo, o1), (so, o2), (it, o4), (tu, o5)] ++ (rled ⟨c, ⟨wd, lr, vals, nn⟩, R⟩ ⟨σ, od, 0, 0⟩ (tl ++ (new ++ XO) ++ ex') ++ XM) from hp) with hp | hp
      · exact let ⟨o, ho⟩ := five p hp; DF.a1 (p.1, o) ho
      · exact hfa p hp
    · rcases List.mem_append.mp (show p ∈ [(cu, o3), (wo, o1), (so, o2), (it, o4), (tu, o5)] ++ (rled ⟨c, ⟨wd, lr, vals, nn⟩, R⟩ ⟨σ, od, 0, 0⟩ (tl ++ (new ++ XO) ++ ex') ++ XM) from hp) with hp | hp
      · exact let ⟨o, ho⟩ := five p hp; DF.a2 (p.1, o) ho
      · exact hcl p hp
  · intro p hp
    exact ⟨rest (x := wo) (o := o1) (by k_flat) a.1 (fun q hq => (hX q hq).1) p hp, rest (x := so) (o := o2) (by k_flat) a.2.1 (fun q hq => (hX q hq).2.1) p hp, rest (x := cu) (o := o3) (by k_flat) a.2.2.1 (fun q hq => (hX q hq).2.2.1) p hp, rest (x := it) (o := o4) (by k_flat) a.2.2.2.1 (fun q hq => (hX q hq).2.2.2) p hp⟩
theorem rig_made {w : World} {h₀ h : Heap} {L : Addr} {f : FA} {φ : FS} {XM XO new tl ex' : List (Addr × Obj)} {wo so cu it tu lr wd D ds xs nn : Nat} {o1 o2 o3 o4 o5 o6 p1 p2 p3 p4 p5 oxs ods oD od : Obj} {vals : List Value} {R : List Tk} {c : CA} {σ : CS}
    (N : News h₀ L h (led c σ (((cu, o3) :: (wo, o1) :: (so, o2) :: (it, o4) :: (tu, o5) :: fled f φ ((wd, od) :: (lr, listOf vals.toArray nn) :: (tl ++ (new ++ (XM ++ XO))))) ++ ex')))
    (Dr : Rel R 0 0 c σ (((cu, o3) :: (wo, o1) :: (so, o2) :: (it, o4) :: (tu, o5) :: fled f φ ((wd, od) :: (lr, listOf vals.toArray nn) :: (tl ++ (new ++ (XM ++ XO))))) ++ ex'))
    (O : Ord f new (XM ++ XO) tl wo so cu it tu lr wd D ds xs) (isW : WIs w 0 0 ⟨wd, lr, vals, nn⟩ od) (hrow : RowOf new vals R) (hX : ∀ p ∈ new ++ (XM ++ XO), p.1 ≠ wo ∧ p.1 ≠ so ∧ p.1 ≠ cu ∧ p.1 ≠ it)
    (DF : FOk f φ ((lr, o6) :: (new ++ ((wo, p1) :: (so, p2) :: (cu, p3) :: (it, p4) :: (tu, p5) :: (XM ++ XO))))) (e1 : c.xs = xs) (e2 : c.ds = ds) (e3 : c.lt = D)
    (fr : Far ex' ((xs, oxs) :: (ds, ods) :: (D, oD) :: ((cu, o3) :: (wo, o1) :: (so, o2) :: (it, o4) :: (tu, o5) :: fled f φ ((wd, od) :: (lr, listOf vals.toArray nn) :: (tl ++ (new ++ (XM ++ XO)))))))
    (lts : ∀ z ∈ xs :: ds :: D :: ((cu, o3) :: (wo, o1) :: (so, o2) :: (it, o4) :: (tu, o5) :: fled f φ ((wd, od) :: (lr, listOf vals.toArray nn) :: (tl ++ (new ++ (XM ++ XO))))).map (·.1), z < c.xc ∧ z < c.dc ∧ z < c.la)
    (n1 : NoTok [(cu, o3), (wo, o1), (so, o2), (it, o4), (tu, o5)]) (nM : NoTok XM) (hMz : ∀ p ∈ new, ∀ q ∈ XM, p.1 ≠ q.1) :
    ∃ (r : RP) (t : RS) (own : List (Addr × Obj)), r.c = c ∧ r.W.wd = wd ∧ t.sp = 0 ∧ t.se = 0 ∧ RigOk w r t own ∧ In1 r ∧ (∀ x ∈ r.keys, lr ≤ x) ∧
      News h₀ L h ((cu, o3) :: (wo, o1) :: (so, o2) :: (it, o4) :: (tu, o5) :: fled f φ (rled r t own ++ XM)) ∧ FOk f φ ((cu, o3) :: (wo, o1) :: (so, o2) :: (it, o4) :: (tu, o5) :: (rled r t own ++ XM)) ∧
      (∀ p ∈ rled r t own ++ XM, p.1 ≠ wo ∧ p.1 ≠ so ∧ p.1 ≠ cu ∧ p.1 ≠ it) ∧ (∀ p ∈ XO, p ∈ own) ∧ (∀ p ∈ own, p ∈ XO ∨ ∀ q ∈ XM, p.1 ≠ q.1) := by
  obtain ⟨a, b, d, e, g, k⟩ := rig_made0 N Dr O isW hrow hX DF e1 e2 e3 fr lts n1 nM
  refine ⟨_, _, _, rfl, rfl, rfl, rfl, a, b, d, e, g, k, fun p hp => ?_, fun p hp => ?_⟩
  · k_flat
  · simp only [List.mem_append] at hp
    rcases hp with (hp | hp | hp) | hp
    · exact .inr fun q hq => Nat.ne_of_gt (Nat.lt_trans (O.f q (List.mem_append_right _ (List.mem_append_left _ hq))) (O.g p hp))
    · exact .inr (hMz p hp)
    · exact .inl hp
    · refine .inr fun q hq => fr p hp q ?_
      k_flat
-- a turn's end: the loop's iterator stands apart
theorem unr_close {h₀ h' : Heap} {L : Addr} {m' : Str → Option Value} {s₁ : Shared} {f : FA} {φ : FS} {X : List (Addr × Obj)} {wo so cu it tu tk : Nat} {o1 o2 o3 o4 o5 : Obj} {rest : (Str → Option Value) → List (Addr × Obj) → Prop} (F : Fr h₀ L h' m')
    (N : News h₀ L h' ((cu, o3) :: (wo, o1) :: (so, o2) :: (it, o4) :: (tu, o5) :: fled f φ X)) (ne : cu < it ∧ wo < it ∧ so < it ∧ tu < it ∧ f.fa < it ∧ f.cl < it) (hX : ∀ p ∈ X, p.1 ≠ it)
    (r : rest m' ((cu, o3) :: (wo, o1) :: (so, o2) :: (tu, o5) :: fled f φ X)) : UnrEndW h₀ L s₁ [(it, o4)] (fun m' n' => SubL [(tu, o5)] n' ∧ rest m' n') { s₁ with heap := h', toks := tk } := by
  refine ⟨h', tk, m', (cu, o3) :: (wo, o1) :: (so, o2) :: (tu, o5) :: fled f φ X, rfl, F, news_sub N fun p hp => ?_, fun p hp q hq => ?_, ⟨.tail _ (.tail _ (.tail _ (.head _))), trivial⟩, r⟩
  · refine sub_at hp ?_; k_tabat
  · cases List.mem_singleton.mp hq
    simp only [fled, List.mem_cons] at hp
    rcases hp with rfl | rfl | rfl | rfl | rfl | rfl | hp
    · exact Nat.ne_of_lt ne.1
    · exact Nat.ne_of_lt ne.2.1
    · exact Nat.ne_of_lt ne.2.2.1
    · exact Nat.ne_of_lt ne.2.2.2.1
    · exact Nat.ne_of_lt ne.2.2.2.2.1
    · exact Nat.ne_of_lt ne.2.2.2.2.2
    · exact hX p hp
theorem front5' {h₀ h : Heap} {L : Addr} {f : FA} {φ : FS} {ex : List (Addr × Obj)} {a b c d e : Addr × Obj} (N : News h₀ L h (a :: b :: c :: d :: e :: fled f φ ex)) : News h₀ L h (fled f φ (c :: d :: b :: a :: e :: ex)) := news_sub N fun p hp => by
  refine sub_at hp ?_; k_tabat
theorem FOk.five {f : FA} {φ : FS} {X : List (Addr × Obj)} {wo so cu it tu : Nat} {o1 o2 o3 o4 o5 q1 q2 q3 q4 q5 : Obj} (D : FOk f φ ((cu, o3) :: (wo, o1) :: (so, o2) :: (it, o4) :: (tu, o5) :: X)) : FOk f φ ((wo, q1) :: (so, q2) :: (cu, q3) :: (it, q4) :: (tu, q5) :: X) := by
  refine D.keys ?_; k_typeOf
theorem rled_own {r : RP} {t : RS} {own : List (Addr × Obj)} : ∀ p ∈ rled r t [], p ∈ rled r t own := fun p hp => by
  refine sub_at hp ?_; k_tabat
theorem noTok_rled {w : World} {r : RP} {t : RS} {own : List (Addr × Obj)} (D : RigOk w r t own) : NoTok (rled r t []) := noTok_other (other_app (other_led r.c t.σ) (other_wled D.is))
theorem key_mem {r : RP} {t : RS} {own : List (Addr × Obj)} {x : Nat} (hx : x ∈ r.keys) : ∃ o, (x, o) ∈ rled r t own := by
  simp only [RP.keys, List.mem_cons, List.not_mem_nil, or_false] at hx
  rcases hx with rfl | rfl | rfl | rfl | rfl | rfl | rfl | rfl
  · exact ⟨_, .head _⟩
  · exact ⟨_, .tail _ (.head _)⟩
  · exact ⟨_, .tail _ (.tail _ (.head _))⟩
  · exact ⟨_, .tail _ (.tail _ (.tail _ (.head _)))⟩
  · exact ⟨_, .tail _ (.tail _ (.tail _ (.tail _ (.head _))))⟩
  · exact ⟨_, .tail _ (.tail _ (.tail _ (.tail _ (.tail _ (.head _)))))⟩
  · exact ⟨_, .tail _ (.tail _ (.tail _ (.tail _ (.tail _ (.tail _ (.head _))))))⟩
  · exact ⟨_, .tail _ (.tail _ (.tail _ (.tail _ (.tail _ (.tail _ (.tail _ (.head _)))))))⟩
theorem keys_lt {f : FA} {φ : FS} {a b c d e : Addr × Obj} {r : RP} {t : RS} {own : List (Addr × Obj)} {z0 lr : Nat} (hz : ∀ q ∈ fled f φ (a :: b :: c :: d :: e :: rled r t own), q.1 < z0) (hlr : z0 ≤ lr) : ∀ x ∈ r.keys, x < lr := fun x hx =>
  let ⟨o, ho⟩ := key_mem (t := t) (own := own) hx
  Nat.lt_of_lt_of_le (hz (x, o) (.tail _ (.tail _ (.tail _ (.tail _ (.tail _ (.tail _ (.tail _ ho)))))))) hlr
theorem new_ne {f : FA} {φ : FS} {a b c d e : Addr × Obj} {r : RP} {t : RS} {own new : List (Addr × Obj)} {z0 lr : Nat} (hz : ∀ q ∈ fled f φ (a :: b :: c :: d :: e :: rled r t own), q.1 < z0) (hnew : ∀ p ∈ new, z0 ≤ p.1 ∧ p.1 ≠ lr) : ∀ p ∈ new, ∀ q ∈ rled r t [], p.1 ≠ q.1 := fun p hp q hq =>
  Nat.ne_of_gt (Nat.lt_of_lt_of_le (hz q (.tail _ (.tail _ (.tail _ (.tail _ (.tail _ (.tail _ (.tail _ (rled_own q hq)))))))) ) (hnew p hp).1)
theorem rigs_of {w : World} {a b : RP} {ta tb : RS} {own0 own1 : List (Addr × Obj)} {z : Nat} (ok0 : RigOk w a ta own0) (ok1 : RigOk w b tb own1) (in0 : In1 a) (in1 : In1 b) (h1 : ∀ x ∈ a.keys, x < z) (h2 : ∀ x ∈ b.keys, z ≤ x)
    (sub : ∀ p ∈ own0, p ∈ own1) (sep : ∀ p ∈ own1, p ∈ own0 ∨ ∀ q ∈ rled a ta [], p.1 ≠ q.1) : Rigs w a b ta tb own1 := by
  have A := ok0.rel.apart
  have f : ∀ x ∈ a.keys, (∀ p ∈ own0, p.1 ≠ x) → ∀ p ∈ own1, p.1 ≠ x := fun x hx h p hp => (sep p hp).elim (h p) fun h => let ⟨o, ho⟩ := key_mem (t := ta) (own := []) hx; h (x, o) ho
  exact ⟨ok0.more sub ⟨A.l, f _ (by k_flat) A.a1, f _ (by k_flat) A.a2, f _ (by k_flat) A.a3⟩ (f _ (by k_flat) ok0.row.wd), ok1, two_of in0 h1 h2, two_of' in1 h1 h2⟩
abbrev tup4 (a b c d : Value) : Obj := { cls := .type "tuple", data := .seq [a, b, c, d].toArray }
-- a list of deeds, written in the ledger
def DeedsOf (new : List (Addr × Obj)) (vals : List Value) : Prop := ∀ (j : Nat) (v : Value), vals[j]? = some v → ∃ (y : Addr) (k : Int) (t1 : Tok) (sr : Sr) (t2 : Tok) (nn : Nat) (t3 : Tok) (x : Str) (t4 : Tok),
  v = .ref y ∧ (y, tup4 (.int k t1) (.str sr.str t2) (.int nn t3) (.str x t4)) ∈ new ∧ (k = 0 ∨ k = 1) ∧ nn ≤ 3 ∧ PyData.strOk x = true
theorem DeedsOf.push {new new' : List (Addr × Obj)} {vals : List Value} (h : DeedsOf new vals) (s : ∀ p ∈ new, p ∈ new') {y : Addr} {k : Int} {t1 : Tok} {sr : Sr} {t2 : Tok} {nn : Nat} {t3 : Tok} {x : Str} {t4 : Tok}
    (hm : (y, tup4 (.int k t1) (.str sr.str t2) (.int nn t3) (.str x t4)) ∈ new') (hk : k = 0 ∨ k = 1) (hn : nn ≤ 3) (hx : PyData.strOk x = true) : DeedsOf new' (vals ++ [.ref y]) := fun j v hv => by
  rw [List.getElem?_append] at hv
  split at hv
  · obtain ⟨y, k, t1, sr, t2, nn, t3, x, t4, a, b, c⟩ := h j v hv
    exact ⟨y, k, t1, sr, t2, nn, t3, x, t4, a, s _ b, c⟩
  · have e : j - vals.length = 0 := by
      cases q : j - vals.length with
      | zero => rfl
      | succ z => rw [q] at hv; simp at hv
    rw [e] at hv
    cases hv
    exact ⟨y, k, t1, sr, t2, nn, t3, x, t4, rfl, hm, hk, hn, hx⟩
def SortsAt (sorts : List Value) : Prop := ∀ j, j < 12 → ∃ (sr : Sr) (t : Tok), sorts[j]? = some (.str sr.str t)
theorem sorts_at {a b c d e f g h i j k l : Tok} : SortsAt [.str "take" a, .str "peek" b, .str "accept_op" c, .str "accept_key" d, .str "expect_id" e, .str "is_op" f, .str "is_key" g, .str "expect_op" h, .str "expect_key" i, .str "fail" j, .str "peek" k, .str "take" l] := fun n hn => by
  match n, hn with
  | 0, _ => exact ⟨.take, _, rfl⟩
  | 1, _ => exact ⟨.peek, _, rfl⟩
  | 2, _ => exact ⟨.acceptOp, _, rfl⟩
  | 3, _ => exact ⟨.acceptKey, _, rfl⟩
  | 4, _ => exact ⟨.expectId, _, rfl⟩
  | 5, _ => exact ⟨.isOp, _, rfl⟩
  | 6, _ => exact ⟨.isKey, _, rfl⟩
  | 7, _ => exact ⟨.expectOp, _, rfl⟩
  | 8, _ => exact ⟨.expectKey, _, rfl⟩
  | 9, _ => exact ⟨.fail, _, rfl⟩
  | 10, _ => exact ⟨.peek, _, rfl⟩
  | 11, _ => exact ⟨.take, _, rfl⟩
theorem text_at {h₀ h : Heap} {L : Addr} {tx : Nat} {rest : List (Addr × Obj)} {a b c d : Tok} {n k : Nat} (_ : News h₀ L h ((tx, listOf [.str "#" a, .str ";" b, .str "begin" c, .str "end" d].toArray n) :: rest)) (hk : k < 4) :
    ∃ x t, ([.str "#" a, .str ";" b, .str "begin" c, .str "end" d] : List Value)[k]? = some (.str x t) ∧ PyData.strOk x = true := by
  match k, hk with
  | 0, _ => exact ⟨_, _, rfl, by decide +kernel⟩
  | 1, _ => exact ⟨_, _, rfl, by decide +kernel⟩
  | 2, _ => exact ⟨_, _, rfl, by decide +kernel⟩
  | 3, _ => exact ⟨_, _, rfl, by decide +kernel⟩
-- the deeds' loop: the feed, the list of deeds, what was made, the rest
def DeedJ (f : FA) (ex : List (Addr × Obj)) (z0 dl sl : Nat) (sorts : List Value) (m₀ : Str → Option Value) (i : Nat) (m : Str → Option Value) (nx : List (Addr × Obj)) : Prop :=
  ∃ (φ : FS) (vals : List Value) (new : List (Addr × Obj)) (u : Str → Option Value), nx = fled f φ ((dl, listOf vals.toArray i) :: (new ++ ex)) ∧ m = (fun z => if ([Str.ofString "turn", Str.ofString "which", Str.ofString "sort"] : List Str).contains z then u z else m₀ z) ∧ IntsAre φ.vs φ.ns ∧ φ.ns.length ≤ 40 ∧
    (∀ p ∈ new, z0 ≤ p.1 ∧ p.1 ≠ dl) ∧ (sl, listOf sorts.toArray 0) ∈ new ∧ vals.length = 3 + i ∧ DeedsOf new vals
theorem deeds3 {new : List (Addr × Obj)} {y1 y2 y3 : Addr} {a1 a2 a3 a4 b1 b2 b3 b4 c1 c2 c3 c4 : Tok} (h1 : (y1, tup4 (.int 0 a1) (.str "peek" a2) (.int 2 a3) (.str "" a4)) ∈ new) (h2 : (y2, tup4 (.int 0 b1) (.str "take" b2) (.int 0 b3) (.str "" b4)) ∈ new) (h3 : (y3, tup4 (.int 0 c1) (.str "take" c2) (.int 0 c3) (.str "" c4)) ∈ new) :
    DeedsOf new [.ref y1, .ref y2, .ref y3] := fun j v hv => by
  have e : PyData.strOk "" = true := by decide +kernel
  match j with
  | 0 => cases hv; exact ⟨y1, 0, a1, .peek, a2, 2, a3, "", a4, rfl, h1, .inl rfl, by omega, e⟩
  | 1 => cases hv; exact ⟨y2, 0, b1, .take, b2, 0, b3, "", b4, rfl, h2, .inl rfl, by omega, e⟩
  | 2 => cases hv; exact ⟨y3, 0, c1, .take, c2, 0, c3, "", c4, rfl, h3, .inl rfl, by omega, e⟩
  | n + 3 => simp at hv
theorem keys_at {l T : List (Addr × Obj)} {p : Addr × Obj} (hp : p ∈ l) (h : ∀ p ∈ l, ∃ o, (p.1, o) ∈ T) : ∃ o, (p.1, o) ∈ T := h p hp
theorem deeds_start {h₀ h : Heap} {L : Addr} {f : FA} {φ : FS} {X : List (Addr × Obj)} {wo so cu it tu d1 d2 d3 dl sl : Nat} {o1 o2 o3 p1 p2 p3 p4 p5 ot e1 e2 e3 el es : Obj}
    (N : News h₀ L h ((sl, es) :: (dl, el) :: (d3, e3) :: (d2, e2) :: (d1, e1) :: (cu, o3) :: (wo, o1) :: (so, o2) :: (tu, ot) :: fled f φ X)) (D : FOk f φ ((cu, p3) :: (wo, p1) :: (so, p2) :: (it, p4) :: (tu, p5) :: X))
    (g1 : @LT.lt Nat _ cu d1 ∧ @LT.lt Nat _ wo d1 ∧ @LT.lt Nat _ so d1 ∧ @LT.lt Nat _ tu d1 ∧ @LT.lt Nat _ f.fa d1 ∧ @LT.lt Nat _ f.cl d1 ∧ AllLt d1 X) (g2 : @LT.lt Nat _ d1 d2) (g3 : @LT.lt Nat _ d2 d3) (g4 : @LT.lt Nat _ d3 dl) (g5 : @LT.lt Nat _ dl sl) :
    News h₀ L h (fled f φ ((dl, el) :: ([(sl, es), (d3, e3), (d2, e2), (d1, e1)] ++ ((cu, o3) :: (wo, o1) :: (so, o2) :: X)))) ∧ (∀ q ∈ fled f φ ((cu, o3) :: (wo, o1) :: (so, o2) :: X), @LT.lt Nat _ q.1 d1) ∧ (∀ p ∈ [(sl, es), (d3, e3), (d2, e2), (d1, e1)], d1 ≤ p.1 ∧ p.1 ≠ dl) ∧ d1 ≤ dl ∧
      FOk f φ ((cu, o3) :: (wo, o1) :: (so, o2) :: X) := by
  refine ⟨news_sub N fun p hp => ?_, fun q hq => ?_, fun p hp => ?_, by omega, D.keys fun p hp => ?_⟩
  · refine sub_at hp ?_; k_tabat
  · simp only [fled, List.mem_cons] at hq
    rcases hq with rfl | rfl | rfl | rfl | rfl | hq
    · exact g1.2.2.2.2.1
    · exact g1.2.2.2.2.2.1
    · exact g1.1
    · exact g1.2.1
    · exact g1.2.2.1
    · exact allLt_mem g1.2.2.2.2.2.2 q hq
  · simp only [List.mem_cons, List.not_mem_nil, or_false] at hp
    rcases hp with rfl | rfl | rfl | rfl <;> constructor <;> dsimp only <;> omega
  · refine keys_at hp ?_; k_typeOf
theorem main_start {w : World} {h₀ h : Heap} {L : Addr} {f : FA} {φ φ' : FS} {X new own : List (Addr × Obj)} {wo so cu dl z0 : Nat} {o1 o2 o3 el : Obj} {a b : RP} {ta tb : RS} (N : News h₀ L h (fled f φ' ((dl, el) :: (new ++ ((cu, o3) :: (wo, o1) :: (so, o2) :: X)))))
    (hX : X = rled b tb own ++ rled a ta []) (sep : ∀ p ∈ X, p.1 ≠ wo ∧ p.1 ≠ so ∧ p.1 ≠ cu ∧ True) (ho : ∀ q ∈ fled f φ ((cu, o3) :: (wo, o1) :: (so, o2) :: X), @LT.lt Nat _ q.1 z0) (hnew : ∀ p ∈ new, z0 ≤ p.1 ∧ p.1 ≠ dl) (hdl : z0 ≤ dl) (RG : Rigs w a b ta tb own) :
    News h₀ L h (rled a ta (rled b tb (own ++ ((cu, o3) :: (wo, o1) :: (so, o2) :: (dl, el) :: new)))) ∧ Rigs w a b ta tb (own ++ ((cu, o3) :: (wo, o1) :: (so, o2) :: (dl, el) :: new)) := by
  have hs : ∀ q ∈ rled a ta (rled b tb own), q ∈ X := fun q hq => by
    rw [hX]
    refine sub_at hq ?_; k_tabat
  refine ⟨news_sub N fun p hp => ?_, RG.app fun p hp q hq => ?_⟩
  · rw [hX]
    refine sub_at hp ?_; k_tabat
  · have hq2 := hs q hq
    have hq3 := ho q (.tail _ (.tail _ (.tail _ (.tail _ (.tail _ hq2)))))
    simp only [List.mem_cons] at hp
    rcases hp with rfl | rfl | rfl | rfl | hp
    · exact (sep q hq2).2.2.1.symm
    · exact (sep q hq2).1.symm
    · exact (sep q hq2).2.1.symm
    · exact Nat.ne_of_gt (Nat.lt_of_lt_of_le hq3 hdl)
    · exact Nat.ne_of_gt (Nat.lt_of_lt_of_le hq3 (hnew p hp).1)
-- the main loop: two rigs, what stays, what was made
def MainJ (w : World) (a b : RP) (base : List (Addr × Obj)) (m₀ : Str → Option Value) (i : Nat) (m : Str → Option Value) (nx : List (Addr × Obj)) : Prop :=
  ∃ (ta tb : RS) (more : List (Addr × Obj)) (u : Str → Option Value), nx = rled a ta (rled b tb (base ++ more)) ∧
    m = (fun z => if ([Str.ofString "which", Str.ofString "sort", Str.ofString "number", Str.ofString "text", Str.ofString "due", Str.ofString "told", Str.ofString "k"] : List Str).contains z then u z else m₀ z) ∧ Rigs w a b ta tb (base ++ more) ∧
    ta.sp ≤ i ∧ ta.se ≤ i + 3 ∧ tb.sp ≤ i ∧ tb.se ≤ i + 3
-- which rig a deed is on
theorem on_rig {w : World} {h₀ h : Heap} {L : Addr} {r0 r1 : RP} {t0 t1 : RS} {ex : List (Addr × Obj)} {k : Int} {i : Nat} (N : News h₀ L h (rled r0 t0 (rled r1 t1 ex))) (hk : k = 0 ∨ k = 1) (RG : Rigs w r0 r1 t0 t1 ex) (b0 : t0.sp ≤ i ∧ t0.se ≤ i + 3) (b1 : t1.sp ≤ i ∧ t1.se ≤ i + 3) :
    ∃ (a b : RP) (ta tb : RS), News h₀ L h (rled a ta (rled b tb ex)) ∧ Rigs w a b ta tb ex ∧ (ta.sp ≤ i ∧ ta.se ≤ i + 3) ∧ (tb.sp ≤ i ∧ tb.se ≤ i + 3) ∧ (∀ x y : Value, ([x, y] : List Value)[k.toNat]? = some (if k = 0 then x else y)) ∧
      (∀ g : RP → Value, (if k = 0 then g r0 else g r1) = g a) ∧ 0 ≤ k ∧ k < 2 ∧
      (∀ p ∈ rled r0 t0 (rled r1 t1 ex), p ∈ rled a ta (rled b tb ex)) ∧ ∀ (ta' tb' : RS) (ex' : List (Addr × Obj)), Rigs w a b ta' tb' ex' → ∃ t0' t1', Rigs w r0 r1 t0' t1' ex' ∧ (∀ p ∈ rled r0 t0' (rled r1 t1' ex'), p ∈ rled a ta' (rled b tb' ex')) ∧ ((ta'.sp ≤ i + 1 ∧ ta'.se ≤ i + 1 + 3) → (tb'.sp ≤ i + 1 ∧ tb'.se ≤ i + 1 + 3) → (t0'.sp ≤ i + 1 ∧ t0'.se ≤ i + 1 + 3) ∧ (t1'.sp ≤ i + 1 ∧ t1'.se ≤ i + 1 + 3)) := by
  rcases hk with rfl | rfl
  · exact ⟨r0, r1, t0, t1, N, RG, b0, b1, fun x y => by simp, fun g => by simp, by omega, by omega, fun _ h => h, fun ta' tb' ex' R => ⟨ta', tb', R, fun p hp => hp, fun x y => ⟨x, y⟩⟩⟩
  · exact ⟨r1, r0, t1, t0, news_sub N rled_swap, RG.swap, b1, b0, fun x y => by simp, fun g => by simp, by omega, by omega, rled_swap, fun ta' tb' ex' R => ⟨tb', ta', R.swap, rled_swap, fun x y => ⟨y, x⟩⟩⟩
def Ans.isB : Ans → Bool
  | .bool _ => true
  | _ => false
theorem ans_handed {ex : List (Addr × Obj)} {a : Ans} {v : Value} (h : AnsIs ex v a) : handedIn v = true := by
  cases a with
  | tup a b c => obtain ⟨y, _, _, _, rfl, _⟩ := h; rfl
  | bool b => cases h; rfl
  | none => cases h; rfl
  | one d =>
    cases d with
    | s x => obtain ⟨t, rfl⟩ := h; rfl
    | r a => cases h; rfl
    | i n => obtain ⟨t, rfl⟩ := h; rfl
theorem isb_ans {prog : Program} {w : World} {A : Around} {E : Value → Shared → Prop} {s : Shared} {ex : List (Addr × Obj)} {a : Ans} {v : Value} {Q : Value → Shared → Prop} (N : ∀ p ∈ ex, s.heap.get? p.1 = some p.2) (hv : AnsIs ex v a) (g : a.good ex)
    (h : ∀ tk, Q (.bool a.isB) { s with toks := tk }) : wpAny (model prog w) A (call (.builtin "isinstance") [v, .type "bool"]) Q E s := by
  cases a with
  | tup a b c =>
    obtain ⟨y, _, _, _, rfl, hm, _⟩ := hv
    exact IsiPair.tuple_bool (N _ hm) rfl (h _)
  | bool b => cases hv; exact IsiPair.bool_bool (h s.toks)
  | none => cases hv; exact IsiPair.NoneType_bool (h _)
  | one d =>
    cases d with
    | s x => obtain ⟨t, rfl⟩ := hv; exact IsiPair.str_bool (h _)
    | r a =>
      cases hv
      obtain ⟨_, _, _, hm⟩ := g
      exact IsiPair.tuple_bool (N _ hm) rfl (h _)
    | i n => obtain ⟨t, rfl⟩ := hv; exact IsiPair.int_bool (h _)
theorem fok_deed {f : FA} {φ φ' : FS} {ex new : List (Addr × Obj)} {z0 dl : Nat} {o : Obj} (D : FOk f φ ex) (ho : ∀ q ∈ fled f φ ex, @LT.lt Nat _ q.1 z0) (hnew : ∀ p ∈ new, z0 ≤ p.1 ∧ p.1 ≠ dl) (hdl : z0 ≤ dl) (hI : IntsAre φ'.vs φ'.ns) (hL : φ'.ns.length ≤ 40) : FOk f φ' ((dl, o) :: (new ++ ex)) :=
  fok_more D ⟨hI, hL⟩ ho fun p hp => (List.mem_cons.mp hp).elim (fun e => .inl (by rw [e]; exact hdl)) fun hp => (List.mem_append.mp hp).elim (fun h => .inl (hnew p h).1) .inr
theorem fled_push {h₀ h : Heap} {L : Addr} {f : FA} {φ : FS} {x : Addr × Obj} {ex : List (Addr × Obj)} (N : News h₀ L h (x :: fled f φ ex)) : News h₀ L h (fled f φ (x :: ex)) := news_sub N fun p hp => by
  refine sub_at hp ?_; k_tabat
-- the turn's ledger, the list of deeds in front
theorem deed_front {h₀ h : Heap} {L : Addr} {f : FA} {φ φ0 : FS} {new ex own : List (Addr × Obj)} {dl tx z0 : Nat} {o otx : Obj} (N : News h₀ L h (fled f φ ((tx, otx) :: (((dl, o) :: (new ++ ex)) ++ own)))) (ho : ∀ q ∈ fled f φ0 ex, @LT.lt Nat _ q.1 z0) (hnew : ∀ p ∈ new, z0 ≤ p.1 ∧ p.1 ≠ dl) (hdl : z0 ≤ dl)
    (hoff : ∀ p ∈ own, p.1 ≠ dl) : News h₀ L h ((dl, o) :: (tx, otx) :: fled f φ (new ++ ex ++ own)) ∧ ∀ p ∈ fled f φ (new ++ ex ++ own), p.1 ≠ dl := by
  refine ⟨news_sub N fun p hp => ?_, fun p hp => ?_⟩
  · refine sub_at hp ?_; k_tabat
  · simp only [fled, List.mem_cons, List.mem_append] at hp
    rcases hp with rfl | rfl | (hp | hp) | hp
    · exact Nat.ne_of_lt (Nat.lt_of_lt_of_le (ho (f.fa, listOf [.ref f.cl, .int φ0.b φ0.tb, .int φ0.c φ0.tc].toArray φ0.n) (.head _)) hdl)
    · exact Nat.ne_of_lt (Nat.lt_of_lt_of_le (ho (f.cl, listOf φ0.vs.toArray φ0.nc) (.tail _ (.head _))) hdl)
    · exact (hnew p hp).2
    · exact Nat.ne_of_lt (Nat.lt_of_lt_of_le (ho p (.tail _ (.tail _ hp))) hdl)
    · exact hoff p hp
theorem deed_turn_end {g' h' : Heap} {L' : Addr} {f : FA} {φ φ0 φ9 : FS} {ex new own : List (Addr × Obj)} {z0 dl sl i y tx nn tk : Nat} {otx : Obj} {sorts vals : List Value} {m₀ m' : Str → Option Value} {k : Int} {t1 t2 t3 t4 : Tok} {sr : Sr} {x : Str} {s₁ : Shared}
    (F : Fr g' L' h' m') (N : News g' L' h' ((y, tup4 (.int k t1) (.str sr.str t2) (.int nn t3) (.str x t4)) :: (dl, listOf (vals ++ [Value.ref y]).toArray (i + 1)) :: (tx, otx) :: fled f φ9 (new ++ ex ++ own)))
    (l1 : @LT.lt Nat _ dl y ∧ @LT.lt Nat _ tx y ∧ @LT.lt Nat _ f.fa y ∧ @LT.lt Nat _ f.cl y ∧ AllLt y (new ++ ex ++ own)) (hm' : ∀ q, ([Str.ofString "turn", Str.ofString "which", Str.ofString "sort"] : List Str).contains q = false → m' q = m₀ q) (hI : IntsAre φ9.vs φ9.ns) (hL : φ9.ns.length ≤ 40)
    (hnew : ∀ p ∈ new, z0 ≤ p.1 ∧ p.1 ≠ dl) (hdl : z0 ≤ dl) (hsl : (sl, listOf sorts.toArray 0) ∈ new) (hlen : vals.length = 3 + i) (hdeed : DeedsOf new vals) (hk : k = 0 ∨ k = 1) (hn : nn ≤ 3) (hx : PyData.strOk x = true)
    (hoff : OwnOff own ((fled f φ0 ((dl, listOf vals.toArray i) :: (new ++ ex))).map (·.1))) : InvEndG g' L' (DeedJ f ex z0 dl sl sorts m₀ (i + 1)) own s₁ { s₁ with heap := h', toks := tk } := by
  refine InvEndG.intro F N ⟨φ9, vals ++ [Value.ref y], (y, tup4 (.int k t1) (.str sr.str t2) (.int nn t3) (.str x t4)) :: new, m', rfl, stored_again hm', hI, hL, ?_, .tail _ hsl, ?_, ?_⟩ ?_ ?_ ?_
  · intro p hp
    rcases List.mem_cons.mp hp with rfl | hp
    · exact ⟨Nat.le_of_lt (Nat.lt_of_le_of_lt hdl l1.1), Nat.ne_of_gt l1.1⟩
    · exact hnew p hp
  · simp only [List.length_append, List.length_singleton]; omega
  · exact hdeed.push (fun _ h => .tail _ h) (.head _) hk hn hx
  · intro p hp b hb
    obtain ⟨q, hq, rfl⟩ := List.mem_map.mp hb
    rcases List.mem_cons.mp hq with rfl | hq
    · exact hoff p hp _ (.head _)
    rcases List.mem_cons.mp hq with rfl | hq
    · exact hoff p hp _ (.tail _ (.head _))
    rcases List.mem_cons.mp hq with rfl | hq
    · exact hoff p hp _ (.tail _ (.tail _ (.head _)))
    rcases List.mem_cons.mp hq with rfl | hq
    · exact Nat.ne_of_lt (allLt_mem l1.2.2.2.2 p (List.mem_append_right _ hp))
    · exact hoff p hp _ (.tail _ (.tail _ (.tail _ (List.mem_map_of_mem hq))))
  · intro p hp
    refine sub_at hp ?_; k_tabat
  · intro p hp
    k_flat
-- the first deeds and the list of sorts, out of sight
theorem hide_deeds {h₀ h : Heap} {L : Addr} {f : FA} {φ : FS} {X : List (Addr × Obj)} {dl sl d1 d2 d3 z0 : Nat} {el : Obj} {a b c d e g i j k l m n a1 a2 a3 a4 b1 b2 b3 b4 c1 c2 c3 c4 : Tok}
    (N : News h₀ L h (fled f φ ((dl, el) :: ([(sl, listOf [.str "take" a, .str "peek" b, .str "accept_op" c, .str "accept_key" d, .str "expect_id" e, .str "is_op" g, .str "is_key" i, .str "expect_op" j, .str "expect_key" k, .str "fail" l, .str "peek" m, .str "take" n].toArray 0), (d3, tup4 (.int 0 c1) (.str "take" c2) (.int 0 c3) (.str "" c4)), (d2, tup4 (.int 0 b1) (.str "take" b2) (.int 0 b3) (.str "" b4)), (d1, tup4 (.int 0 a1) (.str "peek" a2) (.int 2 a3) (.str "" a4))] ++ X))))
    (hnew : ∀ p ∈ ([(sl, listOf [.str "take" a, .str "peek" b, .str "accept_op" c, .str "accept_key" d, .str "expect_id" e, .str "is_op" g, .str "is_key" i, .str "expect_op" j, .str "expect_key" k, .str "fail" l, .str "peek" m, .str "take" n].toArray 0), (d3, tup4 (.int 0 c1) (.str "take" c2) (.int 0 c3) (.str "" c4)), (d2, tup4 (.int 0 b1) (.str "take" b2) (.int 0 b3) (.str "" b4)), (d1, tup4 (.int 0 a1) (.str "peek" a2) (.int 2 a3) (.str "" a4))] : List (Addr × Obj)), z0 ≤ p.1 ∧ p.1 ≠ dl) :
    ∃ (new : List (Addr × Obj)) (sorts : List Value), News h₀ L h (fled f φ ((dl, el) :: (new ++ X))) ∧ (∀ p ∈ new, z0 ≤ p.1 ∧ p.1 ≠ dl) ∧ (sl, listOf sorts.toArray 0) ∈ new ∧ SortsAt sorts ∧ DeedsOf new [.ref d1, .ref d2, .ref d3] :=
  ⟨_, _, N, hnew, .head _, sorts_at, deeds3 (.tail _ (.tail _ (.tail _ (.head _)))) (.tail _ (.tail _ (.head _))) (.tail _ (.head _))⟩
theorem front4 {h₀ h : Heap} {L : Addr} {Y E : List (Addr × Obj)} {p1 p2 p3 p4 : Addr × Obj} (N : News h₀ L h Y) (hY : ∀ p ∈ E, p ∈ Y) (m1 : p1 ∈ E) (m2 : p2 ∈ E) (m3 : p3 ∈ E) (m4 : p4 ∈ E) : ∃ Z, Z = Y ∧ News h₀ L h (p1 :: p2 :: p3 :: p4 :: Z) :=
  ⟨Y, rfl, news_sub N (cons_in (hY _ m1) (cons_in (hY _ m2) (cons_in (hY _ m3) (cons_in (hY _ m4) fun _ h => h))))⟩
theorem two_in {a b : RP} {ta tb : RS} {E : List (Addr × Obj)} : ∀ p ∈ E, p ∈ rled a ta (rled b tb E) := fun _ hp => rled_in (rled_in hp)
theorem back4 {h₀ h : Heap} {L : Addr} {Y Z : List (Addr × Obj)} {p1 p2 p3 p4 : Addr × Obj} (N : News h₀ L h (p1 :: p2 :: p3 :: p4 :: Z)) (hZ : Z = Y) : News h₀ L h Y := news_sub N fun p hp => .tail _ (.tail _ (.tail _ (.tail _ (hZ ▸ hp))))
theorem mainJ_mem {w : World} {a b : RP} {base : List (Addr × Obj)} {m₀ : Str → Option Value} {p : Addr × Obj} (hp : p ∈ base) : ∀ i m nx, MainJ w a b base m₀ i m nx → p ∈ nx := by
  rintro i m nx ⟨ta, tb, more, u, rfl, _⟩
  exact two_in p (List.mem_append_left _ hp)
theorem mainJ_start {w : World} {a b : RP} {ta tb : RS} {base : List (Addr × Obj)} {m₀ : Str → Option Value} (R : Rigs w a b ta tb base) (h1 : ta.sp = 0) (h2 : ta.se = 0) (h3 : tb.sp = 0) (h4 : tb.se = 0) : MainJ w a b base m₀ 0 m₀ (rled a ta (rled b tb base)) :=
  ⟨ta, tb, [], m₀, by rw [List.append_nil], stored_same, by rw [List.append_nil]; exact R, by omega, by omega, by omega, by omega⟩
-- a turn of the main loop begins
theorem main_open {w : World} {h₀ h : Heap} {L : Addr} {a b : RP} {ta tb : RS} {base more own : List (Addr × Obj)} (N : News h₀ L h (rled a ta (rled b tb (base ++ more)) ++ own)) (R : Rigs w a b ta tb (base ++ more)) (hoff : OwnOff own ((rled a ta (rled b tb (base ++ more))).map (·.1))) :
    News h₀ L h (rled a ta (rled b tb (base ++ more ++ own))) ∧ Rigs w a b ta tb (base ++ more ++ own) := by
  refine ⟨news_sub N fun p hp => ?_, R.app fun p hp q hq => hoff p hp q.1 (List.mem_map.mpr ⟨q, hq, rfl⟩)⟩
  refine sub_at hp ?_; k_tabat
theorem rled_keys {a b : RP} {ta tb ta' tb' : RS} {E E' : List (Addr × Obj)} {own : List (Addr × Obj)} (hoff : OwnOff own ((rled a ta (rled b tb E)).map (·.1))) (h : ∀ p ∈ own, ∀ q ∈ E', p.1 ≠ q.1) : OwnOff own ((rled a ta' (rled b tb' E')).map (·.1)) := by
  intro p hp x hx
  obtain ⟨q, hq, rfl⟩ := List.mem_map.mp hx
  have k : ∀ x, (∃ o, (x, o) ∈ rled a ta (rled b tb E)) → p.1 ≠ x := fun x ⟨o, ho⟩ => hoff p hp x (List.mem_map.mpr ⟨(x, o), ho, rfl⟩)
  rcases rled_mem hq with hq | hq
  · exact k _ (key_mem hq)
  rcases rled_mem hq with hq | hq
  · exact k _ (let ⟨o, ho⟩ := key_mem (r := b) (t := tb) (own := E) hq; ⟨o, rled_in ho⟩)
  · exact h p hp q hq
-- a turn of the main loop ends
theorem main_close {w : World} {h₀ h' : Heap} {L : Addr} {m₀ m' : Str → Option Value} {s₁ : Shared} {r0 r1 a b a2 b2 : RP} {t0 t1 s0 s1 sa sb sa2 sb2 : RS} {base more own e1 e2 : List (Addr × Obj)} {i tk : Nat} (F : Fr h₀ L h' m') (N : News h₀ L h' (rled r0 s0 (rled r1 s1 (base ++ more ++ own ++ e1 ++ e2)))) (R : Rigs w r0 r1 s0 s1 (base ++ more ++ own ++ e1 ++ e2))
    (hoff : OwnOff own ((rled r0 t0 (rled r1 t1 (base ++ more))).map (·.1))) (hcls : ∀ p ∈ own, p.2.cls = .type "list_iterator") (f1 : Far e1 (rled a sa (rled b sb (base ++ more ++ own)))) (f2 : Far e2 (rled a2 sa2 (rled b2 sb2 (base ++ more ++ own ++ e1))))
    (hm' : ∀ q, ([Str.ofString "which", Str.ofString "sort", Str.ofString "number", Str.ofString "text", Str.ofString "due", Str.ofString "told", Str.ofString "k"] : List Str).contains q = false → m' q = m₀ q)
    (b1 : (s0.sp ≤ i + 1 ∧ s0.se ≤ i + 1 + 3) ∧ (s1.sp ≤ i + 1 ∧ s1.se ≤ i + 1 + 3)) : InvEndG h₀ L (MainJ w r0 r1 base m₀ (i + 1)) own s₁ { s₁ with heap := h', toks := tk } := by
  have hs : ∀ p ∈ base ++ more ++ own ++ e1 ++ e2, p ∈ own ∨ p ∈ base ++ (more ++ e1 ++ e2) := fun p hp => by
    refine List.mem_append.mp ?_; refine sub_at hp ?_; k_tabat
  have he : ∀ p ∈ base ++ (more ++ e1 ++ e2), p ∈ base ++ more ++ own ++ e1 ++ e2 := fun p hp => by
    refine sub_at hp ?_; k_tabat
  refine InvEndG.intro F N ⟨s0, s1, more ++ e1 ++ e2, m', rfl, stored_again hm', R.less (other_iter hcls) hs he, b1.1.1, b1.1.2, b1.2.1, b1.2.2⟩ (rled_keys hoff fun p hp q hq => ?_) (fun p hp => ?_) fun p hp => ?_
  · simp only [List.mem_append] at hq
    have k : ∀ q ∈ base ++ more, p.1 ≠ q.1 := fun q hq => hoff p hp q.1 (List.mem_map.mpr ⟨q, two_in q hq, rfl⟩)
    rcases hq with h | ((h | h) | h)
    · exact k q (List.mem_append_left _ h)
    · exact k q (List.mem_append_right _ h)
    · exact (f1 q h p (two_in p (List.mem_append_right _ hp))).symm
    · exact (f2 q h p (two_in p (List.mem_append_left _ (List.mem_append_right _ hp)))).symm
  · refine sub_at hp ?_; k_tabat
  · exact two_in p (List.mem_append_left _ (List.mem_append_left _ (List.mem_append_right _ hp)))
-- the two questions behind a deed
def StandJ (Y : List (Addr × Obj)) (m₀ : Str → Option Value) (_ : Nat) (m : Str → Option Value) (nx : List (Addr × Obj)) : Prop := ∃ u : Str → Option Value, nx = Y ∧ m = (fun z => if ([Str.ofString "k"] : List Str).contains z then u z else m₀ z)
theorem stand_close {h₀ h' : Heap} {L : Addr} {m₀ m' : Str → Option Value} {s₁ : Shared} {Y own W : List (Addr × Obj)} {k tk : Nat} (F : Fr h₀ L h' m') (N : News h₀ L h' W) (hY : ∀ p ∈ Y, p ∈ W) (ho : ∀ p ∈ own, p ∈ W) (hoff : OwnOff own (Y.map (·.1))) (hm' : ∀ q, ([Str.ofString "k"] : List Str).contains q = false → m' q = m₀ q) :
    InvEndG h₀ L (StandJ Y m₀ (k + 1)) own s₁ { s₁ with heap := h', toks := tk } := InvEndG.intro F N ⟨m', rfl, stored_again hm'⟩ hoff hY ho
structure Twice : Prop where
  out : True
theorem main_base {w : World} {h₀ h : Heap} {L : Addr} {f : FA} {φ φ' : FS} {X new own : List (Addr × Obj)} {wo so cu dl z0 : Nat} {o1 o2 o3 el : Obj} {a b : RP} {ta tb : RS} (N : News h₀ L h (fled f φ' ((dl, el) :: (new ++ ((cu, o3) :: (wo, o1) :: (so, o2) :: X)))))
    (hX : X = rled b tb own ++ rled a ta []) (sep : ∀ p ∈ X, p.1 ≠ wo ∧ p.1 ≠ so ∧ p.1 ≠ cu ∧ True) (ho : ∀ q ∈ fled f φ ((cu, o3) :: (wo, o1) :: (so, o2) :: X), @LT.lt Nat _ q.1 z0) (hnew : ∀ p ∈ new, z0 ≤ p.1 ∧ p.1 ≠ dl) (hdl : z0 ≤ dl) (RG : Rigs w a b ta tb own)
    (e1 : o1 = listOf [.ref a.W.wd, .ref b.W.wd].toArray 2) (e2 : o2 = listOf [.ref a.c.xs, .ref b.c.xs].toArray 2) (e3 : o3 = listOf [.ref a.c.xc, .ref b.c.xc].toArray 2) :
    ∃ base, News h₀ L h (rled a ta (rled b tb base)) ∧ Rigs w a b ta tb base ∧ (wo, listOf [.ref a.W.wd, .ref b.W.wd].toArray 2) ∈ base ∧ (so, listOf [.ref a.c.xs, .ref b.c.xs].toArray 2) ∈ base ∧ (cu, listOf [.ref a.c.xc, .ref b.c.xc].toArray 2) ∈ base ∧ (dl, el) ∈ base ∧ ∀ p ∈ new, p ∈ base := by
  obtain ⟨N', R'⟩ := main_start N hX sep ho hnew hdl RG
  subst e1 e2 e3
  exact ⟨_, N', R', List.mem_append_right _ (.tail _ (.head _)), List.mem_append_right _ (.tail _ (.tail _ (.head _))), List.mem_append_right _ (.head _), List.mem_append_right _ (.tail _ (.tail _ (.tail _ (.head _)))), fun p hp => List.mem_append_right _ (.tail _ (.tail _ (.tail _ (.tail _ hp))))⟩
theorem stand_open {w : World} {h₀ h : Heap} {L : Addr} {a b : RP} {ta tb : RS} {E own Z : List (Addr × Obj)} {p1 p2 p3 p4 : Addr × Obj} (N : News h₀ L h ((p1 :: p2 :: p3 :: p4 :: Z) ++ own)) (hZ : Z = rled a ta (rled b tb E)) (R : Rigs w a b ta tb E) (hoff : OwnOff own ((p1 :: p2 :: p3 :: p4 :: Z).map (·.1))) :
    News h₀ L h (rled a ta (rled b tb (E ++ own))) ∧ Rigs w a b ta tb (E ++ own) := by
  subst hZ
  refine ⟨news_sub N fun p hp => ?_, R.app fun p hp q hq => hoff p hp q.1 (List.mem_map.mpr ⟨q, .tail _ (.tail _ (.tail _ (.tail _ hq))), rfl⟩)⟩
  refine sub_at hp ?_; k_tabat
theorem stand_end {h₀ h' : Heap} {L : Addr} {m₀ m' : Str → Option Value} {s₁ : Shared} {r0 r1 a b : RP} {t0 t1 sa sb : RS} {E own Z : List (Addr × Obj)} {p1 p2 p3 p4 : Addr × Obj} {k tk : Nat} (F : Fr h₀ L h' m') (N : News h₀ L h' (rled a sa (rled b sb (E ++ own)))) (hZ : Z = rled r0 t0 (rled r1 t1 E))
    (sub : ∀ p ∈ rled r0 t0 (rled r1 t1 (E ++ own)), p ∈ rled a sa (rled b sb (E ++ own))) (m1 : p1 ∈ E) (m2 : p2 ∈ E) (m3 : p3 ∈ E) (m4 : p4 ∈ E) (hoff : OwnOff own ((p1 :: p2 :: p3 :: p4 :: Z).map (·.1))) (hm' : ∀ q, ([Str.ofString "k"] : List Str).contains q = false → m' q = m₀ q) :
    InvEndG h₀ L (StandJ (p1 :: p2 :: p3 :: p4 :: Z) m₀ (k + 1)) own s₁ { s₁ with heap := h', toks := tk } := by
  have hz : ∀ p ∈ Z, p ∈ rled r0 t0 (rled r1 t1 (E ++ own)) := fun p hp => by
    subst hZ
    refine sub_at hp ?_; k_tabat
  have he : ∀ p ∈ E, p ∈ rled a sa (rled b sb (E ++ own)) := fun p hp => two_in p (List.mem_append_left _ hp)
  exact stand_close F N (cons_in (he _ m1) (cons_in (he _ m2) (cons_in (he _ m3) (cons_in (he _ m4) fun p hp => sub p (hz p hp))))) (fun p hp => two_in p (List.mem_append_right _ hp)) hoff hm'
section
local macro_rules | `(tactic| o_head (kHook ?$_ $as $f)) => `(tactic| o_head (kHook Mine.hd.heap_1 $as $f))
local macro_rules | `(tactic| walk_at "eval ListComp") => `(tactic| (k_here; refine Hold.out ?_))
local macro_rules | `(tactic| walk_at "UnrEndW") => `(tactic| (refine Hold.out ?_))
local macro_rules | `(tactic| walk_at "InvEndG") => `(tactic| (refine Hold.out ?_))
local macro_rules | `(tactic| walk_at "compareOp NotEq") => `(tactic| (k_here; (have z9 : Twice := by assumption); clear z9; refine Hold.out ?_))
local macro_rules | `(tactic| walk_at "call builtin:isinstance") => `(tactic| (k_here; refine Hold.out ?_))
local macro_rules | `(tactic| walk_at "exec For Name Call cons nil") => `(tactic| (k_here; refine Hold.out ?_))
local macro_rules | `(tactic| walk_at "exec For Name Tuple cons nil") => `(tactic| (k_here; (have z9 : Once := by assumption); clear z9; refine Hold.out ?_))
local macro_rules | `(tactic| walk_at "exec For Tuple Name cons nil") => `(tactic| (k_here; refine Hold.out ?_))
local macro_rules | `(tactic| walk_at "call type:range") => `(tactic| (k_here; (with_unfolding_all refine range1_rows (by k_asm) (by k_asm) ?_); intro _ _ _ _ _ _ _ _ _))
local macro_rules | `(tactic| walk_at "pyIter ref") => `(tactic| (k_here; (have z9 : Once := by assumption); clear z9; refine Hold.out ?_))
theorem law_holds.tw10007947361888340627 : True := trivial
theorem law_holds.tw10024239376800412576 : True := trivial
theorem law_holds.tw10028117763298573888 : True := trivial
theorem law_holds.tw10188763426450519768 : True := trivial
theorem law_holds.tw10264638600885302300 : True := trivial
theorem law_holds.tw10368410895845634921 : True := trivial
theorem law_holds.tw10465528174321978529 : True := trivial
theorem law_holds.tw10486713781251687710 : True := trivial
theorem law_holds.tw10566571302883470556 : True := trivial
theorem law_holds.tw10817052189556005596 : True := trivial
theorem law_holds.tw10841264019214440115 : True := trivial
theorem law_holds.tw10958410103948607464 : True := trivial
theorem law_holds.tw11097350217990362986 : True := trivial
theorem law_holds.tw11098625913536864229 : True := trivial
theorem law_holds.tw11182679623053108816 : True := trivial
theorem law_holds.tw11223184984439025696 : True := trivial
theorem law_holds.tw11232796583565578275 : True := trivial
theorem law_holds.tw11347954631545130290 : True := trivial
theorem law_holds.tw11484002064277903863 : True := trivial
theorem law_holds.tw11564653303255273618 : True := trivial
theorem law_holds.tw11609493526922420660 : True := trivial
theorem law_holds.tw11764581739189218997 : True := trivial
theorem law_holds.tw11846676642670509255 : True := trivial
theorem law_holds.tw1186782194237197914 : True := trivial
theorem law_holds.tw11946759819590648898 : True := trivial
theorem law_holds.tw11966672015165255308 : True := trivial
theorem law_holds.tw12134408205421670959 : True := trivial
theorem law_holds.tw12223724995276690173 : True := trivial
theorem law_holds.tw12303009252429188658 : True := trivial
theorem law_holds.tw123295346585929383 : True := trivial
theorem law_holds.tw12342728606916771844 : True := trivial
theorem law_holds.tw12459966957829302596 : True := trivial
theorem law_holds.tw12476058986133298565 : True := trivial
theorem law_holds.tw12626328134170644701 : True := trivial
theorem law_holds.tw12732824653754844360 : True := trivial
theorem law_holds.tw12780804625047726367 : True := trivial
theorem law_holds.tw12831907817818079685 : True := trivial
theorem law_holds.tw12835091436910803158 : True := trivial
theorem law_holds.tw1285599515219305098 : True := trivial
theorem law_holds.tw12889056044993165476 : True := trivial
theorem law_holds.tw12889673554181485818 : True := trivial
theorem law_holds.tw13028658284911697911 : True := trivial
theorem law_holds.tw13154458805202713791 : True := trivial
theorem law_holds.tw13182730311906835528 : True := trivial
theorem law_holds.tw13301187468288870568 : True := trivial
theorem law_holds.tw13353303078286903211 : True := trivial
theorem law_holds.tw13381574797768472827 : True := trivial
theorem law_holds.tw13392613628428298086 : True := trivial
theorem law_holds.tw13397297893571687751 : True := trivial
theorem law_holds.tw13402424001964919149 : True := trivial
theorem law_holds.tw13431030151845061361 : True := trivial
theorem law_holds.tw13478230802861573701 : True := trivial
theorem law_holds.tw13709617746848070560 : True := trivial
theorem law_holds.tw13766487248619392586 : True := trivial
theorem law_holds.tw1377309892636839040 : True := trivial
theorem law_holds.tw13800757232730249582 : True := trivial
theorem law_holds.tw1385162719727133579 : True := trivial
theorem law_holds.tw1414043511812021011 : True := trivial
theorem law_holds.tw14289194402921355359 : True := trivial
theorem law_holds.tw14326059299131336239 : True := trivial
theorem law_holds.tw14335913921861858828 : True := trivial
theorem law_holds.tw14390095281932903014 : True := trivial
theorem law_holds.tw14497384708736915567 : True := trivial
theorem law_holds.tw14498155544194170393 : True := trivial
theorem law_holds.tw14545874151571354728 : True := trivial
theorem law_holds.tw14571795756577361901 : True := trivial
theorem law_holds.tw14774650325386425613 : True := trivial
theorem law_holds.tw14822640431511872941 : True := trivial
theorem law_holds.tw14828999820898988419 : True := trivial
theorem law_holds.tw14925382992726071281 : True := trivial
theorem law_holds.tw14983226153234331074 : True := trivial
theorem law_holds.tw14988988175077273356 : True := trivial
theorem law_holds.tw14991590004735058009 : True := trivial
theorem law_holds.tw14997073306097389879 : True := trivial
theorem law_holds.tw15006436103509636135 : True := trivial
theorem law_holds.tw15014403891855920072 : True := trivial
theorem law_holds.tw15150646450996357022 : True := trivial
theorem law_holds.tw15191720212996534143 : True := trivial
theorem law_holds.tw15298196793531828919 : True := trivial
theorem law_holds.tw15352839923633478061 : True := trivial
theorem law_holds.tw15448297888555860652 : True := trivial
theorem law_holds.tw15472126771306010800 : True := trivial
theorem law_holds.tw15527639110640922598 : True := trivial
theorem law_holds.tw15544829507116839252 : True := trivial
theorem law_holds.tw15607887362523206001 : True := trivial
theorem law_holds.tw15617896438947887921 : True := trivial
theorem law_holds.tw15661869461025623997 : True := trivial
theorem law_holds.tw15694993059591697976 : True := trivial
theorem law_holds.tw15759456685926392790 : True := trivial
theorem law_holds.tw15802469936163623734 : True := trivial
theorem law_holds.tw15806970514647361693 : True := trivial
theorem law_holds.tw15808056717442887509 : True := trivial
theorem law_holds.tw15923723764856563912 : True := trivial
theorem law_holds.tw16098122237329998606 : True := trivial
theorem law_holds.tw1622690429015379626 : True := trivial
theorem law_holds.tw16273140198857503625 : True := trivial
theorem law_holds.tw16406091861079842607 : True := trivial
theorem law_holds.tw16614716721108272449 : True := trivial
theorem law_holds.tw1670043908289496885 : True := trivial
theorem law_holds.tw16805829885119392726 : True := trivial
theorem law_holds.tw16836969012518115619 : True := trivial
theorem law_holds.tw16883458599210261866 : True := trivial
theorem law_holds.tw16893121556090616931 : True := trivial
theorem law_holds.tw1689763614830377041 : True := trivial
theorem law_holds.tw17027635718292003107 : True := trivial
theorem law_holds.tw17253903310271361901 : True := trivial
theorem law_holds.tw17255088995462705879 : True := trivial
theorem law_holds.tw17499823404086765753 : True := trivial
theorem law_holds.tw1762888911704233025 : True := trivial
theorem law_holds.tw17635293115897599505 : True := trivial
theorem law_holds.tw17713402740875732926 : True := trivial
theorem law_holds.tw1783637502058952532 : True := trivial
theorem law_holds.tw17942709131360195518 : True := trivial
theorem law_holds.tw18090433342136740992 : True := trivial
theorem law_holds.tw18203989763732354715 : True := trivial
theorem law_holds.tw18234560199702728603 : True := trivial
theorem law_holds.tw18254337876149969668 : True := trivial
theorem law_holds.tw18261290160731607033 : True := trivial
theorem law_holds.tw18269650602155537469 : True := trivial
theorem law_holds.tw1832781179975386347 : True := trivial
theorem law_holds.tw18340598423539479173 : True := trivial
theorem law_holds.tw1905533677188600702 : True := trivial
theorem law_holds.tw1928719863018725356 : True := trivial
theorem law_holds.tw2006301483956418059 : True := trivial
theorem law_holds.tw2043166853727251185 : True := trivial
theorem law_holds.tw2075624079617657780 : True := trivial
theorem law_holds.tw2102315897755806987 : True := trivial
theorem law_holds.tw2136269947727277649 : True := trivial
theorem law_holds.tw2143268655074302082 : True := trivial
theorem law_holds.tw2269544990204364226 : True := trivial
theorem law_holds.tw2295933128562542503 : True := trivial
theorem law_holds.tw2322801206320994539 : True := trivial
theorem law_holds.tw2387193687640843687 : True := trivial
theorem law_holds.tw2503670479209048990 : True := trivial
theorem law_holds.tw2558664710541493025 : True := trivial
theorem law_holds.tw2578278018795888234 : True := trivial
theorem law_holds.tw2618386414584295968 : True := trivial
theorem law_holds.tw2643271747718453845 : True := trivial
theorem law_holds.tw2856731137302751260 : True := trivial
theorem law_holds.tw2907507879108658156 : True := trivial
theorem law_holds.tw302768837105346163 : True := trivial
theorem law_holds.tw3035144380315620824 : True := trivial
theorem law_holds.tw3158129796062787159 : True := trivial
theorem law_holds.tw3186734533307500241 : True := trivial
theorem law_holds.tw3253568177066640346 : True := trivial
theorem law_holds.tw3366817510852727610 : True := trivial
theorem law_holds.tw3426384778480675251 : True := trivial
theorem law_holds.tw3438298445031660282 : True := trivial
theorem law_holds.tw357486453476387696 : True := trivial
theorem law_holds.tw3742325753681652743 : True := trivial
theorem law_holds.tw3756308257209627903 : True := trivial
theorem law_holds.tw3776956092104397036 : True := trivial
theorem law_holds.tw3850375180904979519 : True := trivial
theorem law_holds.tw3850404396616230974 : True := trivial
theorem law_holds.tw3882201998751590657 : True := trivial
theorem law_holds.tw3910120701321347557 : True := trivial
theorem law_holds.tw3912811242725288453 : True := trivial
theorem law_holds.tw3956099054510807996 : True := trivial
theorem law_holds.tw4030767218360268280 : True := trivial
theorem law_holds.tw4370086069003782432 : True := trivial
theorem law_holds.tw4439653461905209652 : True := trivial
theorem law_holds.tw4441770287765753910 : True := trivial
theorem law_holds.tw4464252984393422682 : True := trivial
theorem law_holds.tw447027507633508388 : True := trivial
theorem law_holds.tw4503035019201841076 : True := trivial
theorem law_holds.tw4515466672771955728 : True := trivial
theorem law_holds.tw4581845663705801772 : True := trivial
theorem law_holds.tw4593294709026258786 : True := trivial
theorem law_holds.tw4614512636035447770 : True := trivial
theorem law_holds.tw4776252130006097190 : True := trivial
theorem law_holds.tw4781243967656130014 : True := trivial
theorem law_holds.tw4818577856007422655 : True := trivial
theorem law_holds.tw4916342969005030805 : True := trivial
theorem law_holds.tw4992725456586698614 : True := trivial
theorem law_holds.tw5062152199769849712 : True := trivial
theorem law_holds.tw5112083995522966620 : True := trivial
theorem law_holds.tw519298541982818421 : True := trivial
theorem law_holds.tw5212653520564569363 : True := trivial
theorem law_holds.tw545109181885906688 : True := trivial
theorem law_holds.tw5506821171919863439 : True := trivial
theorem law_holds.tw5640673133297012132 : True := trivial
theorem law_holds.tw576407869801174206 : True := trivial
theorem law_holds.tw602461330855297101 : True := trivial
theorem law_holds.tw6159533029260741167 : True := trivial
theorem law_holds.tw6317479115527610633 : True := trivial
theorem law_holds.tw6499956759230125245 : True := trivial
theorem law_holds.tw6507877686720480950 : True := trivial
theorem law_holds.tw653560878884961445 : True := trivial
theorem law_holds.tw6564709946809587534 : True := trivial
theorem law_holds.tw6709271908398517637 : True := trivial
theorem law_holds.tw6723812968561706957 : True := trivial
theorem law_holds.tw676263390381983339 : True := trivial
theorem law_holds.tw6765152471904792315 : True := trivial
theorem law_holds.tw6776455111828631412 : True := trivial
theorem law_holds.tw6860709855171689206 : True := trivial
theorem law_holds.tw6896717019858035522 : True := trivial
theorem law_holds.tw6934448944433832347 : True := trivial
theorem law_holds.tw699380112222796084 : True := trivial
theorem law_holds.tw7185456241796803578 : True := trivial
theorem law_holds.tw7221428835167493151 : True := trivial
theorem law_holds.tw724200737284857819 : True := trivial
theorem law_holds.tw7304591109411159013 : True := trivial
theorem law_holds.tw7356724547972884604 : True := trivial
theorem law_holds.tw7408322871517469003 : True := trivial
theorem law_holds.tw7497986649931050792 : True := trivial
theorem law_holds.tw7636989558263936852 : True := trivial
theorem law_holds.tw7820799176418779761 : True := trivial
theorem law_holds.tw784011647948385275 : True := trivial
theorem law_holds.tw7897602043232517924 : True := trivial
theorem law_holds.tw8176227357466254829 : True := trivial
theorem law_holds.tw8191475993861738794 : True := trivial
theorem law_holds.tw8249079356659094474 : True := trivial
theorem law_holds.tw8266603773606604290 : True := trivial
theorem law_holds.tw8330938851228082562 : True := trivial
theorem law_holds.tw8441880690091102137 : True := trivial
theorem law_holds.tw8553002610548859549 : True := trivial
theorem law_holds.tw861454836884082852 : True := trivial
theorem law_holds.tw8634839017697508684 : True := trivial
theorem law_holds.tw8666519363043736892 : True := trivial
theorem law_holds.tw8720880381367431298 : True := trivial
theorem law_holds.tw8785698371604719795 : True := trivial
theorem law_holds.tw8835965917227929528 : True := trivial
theorem law_holds.tw8854015012368427407 : True := trivial
theorem law_holds.tw8857742495270377987 : True := trivial
theorem law_holds.tw8909828626151137519 : True := trivial
theorem law_holds.tw8957123355933967898 : True := trivial
theorem law_holds.tw8970147916757833333 : True := trivial
theorem law_holds.tw9069877914133315304 : True := trivial
theorem law_holds.tw9168033884955339765 : True := trivial
theorem law_holds.tw9184033795430018204 : True := trivial
theorem law_holds.tw9207643191828677137 : True := trivial
theorem law_holds.tw9255152265573255198 : True := trivial
theorem law_holds.tw9423440377400516374 : True := trivial
theorem law_holds.tw9456803100559308350 : True := trivial
theorem law_holds.tw9529696498207198238 : True := trivial
theorem law_holds.tw9552830710289189752 : True := trivial
theorem law_holds.tw9606376775287448836 : True := trivial
theorem law_holds.tw9682718004065560343 : True := trivial
theorem law_holds.tw9779807473162285230 : True := trivial
theorem law_holds.tw9849722394096787677 : True := trivial
theorem law_holds.tw9875236377963488844 : True := trivial
theorem law_holds.tw9992725586745946429 : True := trivial
set_option Elab.async true in
theorem law_holds : PySem.Challenge.rw_sj0029_01.Holds := by
  w_on; o_law; k_head; (case hw => w_witness2)
  w_strict k_go0
  rename News _ _ _ [] => N0
  rename Fr _ _ _ _ => F0
  rename Top _ _ _ _ _ _ => T0
  rename Below _ _ _ _ => B0
  rename Frag.In _ _ => X0
  rename Heap.IsList _ _ _ => hL0
  rename IntsAre _ _ => hI0
  refine foldL F0 ?_
  intro tk0 Ak mk F8
  k_fold
  k_steps
  rename Fr _ _ _ _ => F1
  rename News _ _ _ _ => N1
  refine ⟨feed_in B0 F1 X0 N1 T0 rfl ?_ ?_ hL0 hI0 ?_ ?_ ?_⟩
  · show callerA.depth + 1 + 10 < 600; decide
  · show callerA.units + _ + 100 < 2000; decide
  · omega
  · first | assumption | fail
  intro h2 tk2 f φ F2 N2 D2
  try dsimp only
  clear N1 F1
  have once : Once := ⟨trivial⟩
  k_steps
  try dsimp only
  refine ⟨toks_any fun tkF => ?_⟩
  clear once
  k_steps
  rename Fr _ _ _ _ => F3
  rename News _ _ _ _ => N3
  rename @LT.lt Nat _ _ _ ∧ @LT.lt Nat _ _ _ => l1
  rename @LT.lt Nat _ _ _ ∧ @LT.lt Nat _ _ _ ∧ @LT.lt Nat _ _ _ => l2
  rename @LT.lt Nat _ _ _ ∧ @LT.lt Nat _ _ _ ∧ @LT.lt Nat _ _ _ ∧ @LT.lt Nat _ _ _ => l3
  rename @LT.lt Nat _ _ _ ∧ @LT.lt Nat _ _ _ ∧ @LT.lt Nat _ _ _ ∧ @LT.lt Nat _ _ _ ∧ @LT.lt Nat _ _ _ => l4
  rename @LT.lt Nat _ _ _ ∧ @LT.lt Nat _ _ _ ∧ @LT.lt Nat _ _ _ ∧ @LT.lt Nat _ _ _ ∧ @LT.lt Nat _ _ _ ∧ @LT.lt Nat _ _ _ => l5
  have ne5 := And.intro l5.1 (And.intro l5.2.1 (And.intro l5.2.2.1 (And.intro l5.2.2.2.1 l5.2.2.2.2)))
  refine ⟨row_in (φ := φ) B0 F3 X0 (front5 N3) T0 rfl ?_ ?_ (((((D2.push l4.2.2.2.1 l4.2.2.2.2).push l5.2.2.2.2.1 l5.2.2.2.2.2).push l3.2.2.1 l3.2.2.2).push l2.2.1 l2.2.2).push l1.1 l1.2) ?_ ?_ ?_⟩
  · show callerA.depth + 1 + 10 < 600; decide
  · show callerA.units + _ + 200 < 2000; decide
  · omega
  · omega
  intro lr0 h4 tk4 φ4 vals nn new z0 R F4 N4 D4 hz hlr hnew hrow hlen
  try dsimp only
  clear N3 F3
  revert F4
  show (let mk0 : Str → Option Value := _; Fr _ _ _ mk0 → _)
  intro mk0 F4
  obtain ⟨N5, l6, hX⟩ := mid5 N4 hz hnew hlr (fun _ h => nomatch h)
  have b1 := fun p hp => (hX p hp).1
  have b2 := fun p hp => (hX p hp).2.1
  have b3 := fun p hp => (hX p hp).2.2.1
  clear N4
  k_steps
  rename Fr _ _ _ _ => F6
  rename News _ _ _ _ => N6
  rename Obj.IsDictOf _ _ _ => hdW
  have isW := wis_of vals nn N6 hdW
  clear hdW
  have hvl : vals.length ≤ 7 := by rw [hrow.len]; exact hlen
  refine ⟨comp3 (lr := lr0) (vals := vals) (nn := nn) (J := TokJ _ _ R) rfl F6 N6 ?_ (by omega) (tokJ_nil N6) rfl (by decide) rfl (by decide) rfl rfl rfl (by decide) (by decide) (by decide) ?_ ?_ ?_ (by intro _; rfl)⟩
  · rintro i ys nx ⟨tl, rfl, _⟩
    exact List.mem_append_right _ (by first | k_mem | fail)
  · intro Q' hq
    k_steps
    exact hq
  · rintro s' ⟨g, rfl⟩ i v ys nx hv ⟨tl, rfl, hyl, hlt, htl⟩
    obtain ⟨t, hRt, y, va, vb, vc, rfl, hm, ⟨u1, rfl⟩, hvb, ⟨u3, rfl⟩⟩ := row_item hrow hv
    have hin : handedIn vb = true := handed_val (vl_is hvb)
    refine ⟨y, _, _, _, 0, rfl, List.mem_append_right _ (.tail _ (.tail _ (.tail _ (.tail _ (.tail _ (.tail _ (.tail _ (.tail _ (.tail _ (List.mem_append_left _ hm)))))))))), ?_⟩
    clear N6 F6
    intro I oI C oC D m₂ h tk E' NS mx my mz F7 N7 off ne3
    k_steps
    rename Fr T0.heap _ _ _ => F8
    rename News T0.heap _ _ _ => N8
    exact tok_turn_end (q := ⟨_, _, _, _, _, _⟩) F8 N8 (by assumption) (by assumption) off hyl hlt htl hRt hvb (.head _)
  rintro ys nx D h6 tk6 hD ⟨tl, rfl, hyl, hlt, htl⟩ F7 N7 off
  try dsimp only
  rename @LT.lt Nat _ _ _ ∧ @LT.lt Nat _ _ _ ∧ @LT.lt Nat _ _ _ ∧ @LT.lt Nat _ _ _ ∧ @LT.lt Nat _ _ _ ∧ @LT.lt Nat _ _ _ ∧ @LT.lt Nat _ _ _ ∧ @LT.lt Nat _ _ _ ∧ _ => l7
  obtain ⟨N8, l8, a1, a2, a3, a4⟩ := mid8 N7 hD off ⟨l7.1, l7.2.1, l7.2.2.1⟩ hlt b1 b2 b3
  clear N7 N6 F6
  k_steps
  rename Fr T0.heap _ _ _ => F9
  rename News T0.heap _ _ _ => N9
  rename @LT.lt Nat _ _ _ ∧ @LT.lt Nat _ _ _ ∧ @LT.lt Nat _ _ _ ∧ @LT.lt Nat _ _ _ ∧ @LT.lt Nat _ _ _ ∧ @LT.lt Nat _ _ _ ∧ @LT.lt Nat _ _ _ ∧ @LT.lt Nat _ _ _ ∧ @LT.lt Nat _ _ _ ∧ @LT.lt Nat _ _ _ ∧ AllLt _ _ => l9
  rename @LT.lt Nat _ _ _ => l10
  rename Obj.cls _ = Value.type "tuple_iterator" => hcI
  have O : Ord f new ([] ++ []) tl _ _ _ _ _ lr0 _ D _ _ := ⟨l6, l7.2.2.2.1, l8.2.2.2.1, l9.2.2.2.1, l10, fun p hp => allLt_mem l7.2.2.2.2.2.2.2.2 p hp, hlt⟩
  refine ⟨cursor_new (R := R) (toks := ys) (n := ys.length) (q := ⟨PyData.keyHash _ "tokens", PyData.keyHash _ "place", PyData.keyHash _ "parted", _, _, _⟩) B0 F9 X0 (cur_pre N9) T0 rfl ?_ ?_ (cur_e1 O (fun p hp => allLt_mem l9.2.2.2.2.2.2.2.2.2.2 p hp)) (by omega) hrow.ok ⟨by rw [hyl]; exact hrow.len, fun i v t a b => (htl i v t a b).mono fun p hp => ?_⟩ ?_⟩
  · show callerA.depth + 1 + 12 < 600; decide
  · show callerA.units + _ + 100 < 2000; decide
  · simp only [fled, List.mem_cons, List.mem_append, hp, true_or, or_true]
  intro c σ h11 tk11 ex' e1 e2 e3 F11 N11 Dr fr lts
  try dsimp only
  obtain ⟨r0, t0, own0, ec, ew, sp0, se0, ok0, in0, key0, N12, D12, sep0, -, -⟩ := rig_made (XM := []) (XO := []) N11 Dr O isW hrow hX D4 e1 e2 e3 fr lts (noTok_cons rfl (by decide) (noTok_cons rfl (by decide) (noTok_cons rfl (by decide) (noTok_cons hcI (by decide) (noTok_cons rfl (by decide) noTok_nil))))) noTok_nil (fun _ _ _ h => nomatch h)
  subst ec e1
  rw [← ew] at N12
  rw [List.append_nil] at N12 D12 sep0
  clear N9 F9 N11 Dr fr lts D4 hrow hz hX isW hlr hnew hlen b1 b2 b3 a1 a2 a3 a4 hvl hD off hlt htl hyl O e2 e3 D2
  have acu := fun p hp => (sep0 p hp).2.2.1
  clear l7 l8 l9 l10
  k_steps
  rename Fr T0.heap _ _ _ => F13
  rename News T0.heap _ _ _ => N13
  refine ⟨unr_close F13 N13 ?_ (fun p hp => (sep0 p hp).2.2.2) ?_⟩
  · exact ⟨by omega, by omega, by omega, by omega, by omega, by omega⟩
  clear N13 F13 acu hcI
  k_steps
  rename Fr T0.heap _ _ _ => F3
  rename News T0.heap _ _ _ => N3
  rename @LT.lt Nat _ _ _ ∧ @LT.lt Nat _ _ _ ∧ @LT.lt Nat _ _ _ ∧ @LT.lt Nat _ _ _ ∧ @LT.lt Nat _ _ _ ∧ @LT.lt Nat _ _ _ ∧ @LT.lt Nat _ _ _ => l60
  refine ⟨row_in (φ := φ4) B0 F3 X0 (front5' N3) T0 rfl ?_ ?_ D12.five ?_ ?_ ?_⟩
  · show callerA.depth + 1 + 10 < 600; decide
  · show callerA.units + _ + 200 < 2000; decide
  · omega
  · omega
  intro lr1 h4 tk4 φ5 vals nn new z0 R F4 N4 D4 hz hlr hnew hrow hlen
  try dsimp only
  clear N3 F3
  revert F4
  show (let mk1 : Str → Option Value := _; Fr _ _ _ mk1 → _)
  intro mk1 F4
  obtain ⟨N5, l6, hX⟩ := mid5 N4 hz hnew hlr sep0
  have b1 := fun p hp => (hX p hp).1
  have b2 := fun p hp => (hX p hp).2.1
  have b3 := fun p hp => (hX p hp).2.2.1
  clear N4
  k_steps
  rename Fr _ _ _ _ => F6
  rename News _ _ _ _ => N6
  rename Obj.IsDictOf _ _ _ => hdW
  have isW := wis_of vals nn N6 hdW
  clear hdW
  have hvl : vals.length ≤ 7 := by rw [hrow.len]; exact hlen
  refine ⟨comp3 (lr := lr1) (vals := vals) (nn := nn) (J := TokJ _ _ R) rfl F6 N6 ?_ (by omega) (tokJ_nil N6) rfl (by decide) rfl (by decide) rfl rfl rfl (by decide) (by decide) (by decide) ?_ ?_ ?_ (by intro _; rfl)⟩
  · rintro i ys nx ⟨tl, rfl, _⟩
    exact List.mem_append_right _ (by first | k_mem | fail)
  · intro Q' hq
    k_steps
    exact hq
  · rintro s' ⟨g, rfl⟩ i v ys nx hv ⟨tl, rfl, hyl, hlt, htl⟩
    obtain ⟨t, hRt, y, va, vb, vc, rfl, hm, ⟨u1, rfl⟩, hvb, ⟨u3, rfl⟩⟩ := row_item hrow hv
    have hin : handedIn vb = true := handed_val (vl_is hvb)
    refine ⟨y, _, _, _, 0, rfl, List.mem_append_right _ (.tail _ (.tail _ (.tail _ (.tail _ (.tail _ (.tail _ (.tail _ (.tail _ (.tail _ (List.mem_append_left _ hm)))))))))), ?_⟩
    clear N6 F6
    intro I oI C oC D m₂ h tk E' NS mx my mz F7 N7 off ne3
    k_steps
    rename Fr T0.heap _ _ _ => F8
    rename News T0.heap _ _ _ => N8
    exact tok_turn_end (q := ⟨_, _, _, _, _, _⟩) F8 N8 (by assumption) (by assumption) off hyl hlt htl hRt hvb (.head _)
  rintro ys nx D h6 tk6 hD ⟨tl, rfl, hyl, hlt, htl⟩ F7 N7 off
  try dsimp only
  rename @LT.lt Nat _ _ _ ∧ @LT.lt Nat _ _ _ ∧ @LT.lt Nat _ _ _ ∧ @LT.lt Nat _ _ _ ∧ @LT.lt Nat _ _ _ ∧ @LT.lt Nat _ _ _ ∧ @LT.lt Nat _ _ _ ∧ @LT.lt Nat _ _ _ ∧ _ => l7
  obtain ⟨N8, l8, a1, a2, a3, a4⟩ := mid8 N7 hD off ⟨l7.1, l7.2.1, l7.2.2.1⟩ hlt b1 b2 b3
  clear N7 N6 F6
  k_steps
  rename Fr T0.heap _ _ _ => F9
  rename News T0.heap _ _ _ => N9
  rename @LT.lt Nat _ _ _ ∧ @LT.lt Nat _ _ _ ∧ @LT.lt Nat _ _ _ ∧ @LT.lt Nat _ _ _ ∧ @LT.lt Nat _ _ _ ∧ @LT.lt Nat _ _ _ ∧ @LT.lt Nat _ _ _ ∧ @LT.lt Nat _ _ _ ∧ @LT.lt Nat _ _ _ ∧ @LT.lt Nat _ _ _ ∧ AllLt _ _ => l9
  rename @LT.lt Nat _ _ _ => l10
  rename Obj.cls _ = Value.type "tuple_iterator" => hcI
  have O : Ord f new ((rled r0 t0 []) ++ own0) tl _ _ _ _ _ lr1 _ D _ _ := ⟨l6, l7.2.2.2.1, l8.2.2.2.1, l9.2.2.2.1, l10, fun p hp => allLt_mem l7.2.2.2.2.2.2.2.2 p hp, hlt⟩
  refine ⟨cursor_new (R := R) (toks := ys) (n := ys.length) (q := ⟨PyData.keyHash _ "tokens", PyData.keyHash _ "place", PyData.keyHash _ "parted", _, _, _⟩) B0 F9 X0 (cur_pre N9) T0 rfl ?_ ?_ (cur_e1 O (fun p hp => allLt_mem l9.2.2.2.2.2.2.2.2.2.2 p hp)) (by omega) hrow.ok ⟨by rw [hyl]; exact hrow.len, fun i v t a b => (htl i v t a b).mono fun p hp => ?_⟩ ?_⟩
  · show callerA.depth + 1 + 12 < 600; decide
  · show callerA.units + _ + 100 < 2000; decide
  · simp only [fled, List.mem_cons, List.mem_append, hp, true_or, or_true]
  intro c σ h11 tk11 ex' e1 e2 e3 F11 N11 Dr fr lts
  try dsimp only
  obtain ⟨r1, t1, own1, ec, ew, sp1, se1, ok1, in1, key1, N12, D12, sep1, subo, sepM⟩ := rig_made (XM := (rled r0 t0 [])) (XO := own0) N11 Dr O isW hrow hX D4 e1 e2 e3 fr lts (noTok_cons rfl (by decide) (noTok_cons rfl (by decide) (noTok_cons rfl (by decide) (noTok_cons hcI (by decide) (noTok_cons rfl (by decide) noTok_nil))))) (noTok_rled ok0) (new_ne hz hnew)
  have h01 := keys_lt hz hlr
  subst ec e1
  rw [← ew] at N12
  clear N9 F9 N11 Dr fr lts D4 hrow hz hX isW hlr hnew hlen b1 b2 b3 a1 a2 a3 a4 hvl hD off hlt htl hyl O e2 e3 
  have acu := fun p hp => (sep1 p hp).2.2.1
  clear l7 l8 l9 l10
  k_steps
  rename Fr T0.heap _ _ _ => F13
  rename News T0.heap _ _ _ => N13
  refine ⟨unr_close F13 N13 ?_ (fun p hp => (sep1 p hp).2.2.2) ?_⟩
  · exact ⟨by omega, by omega, by omega, by omega, by omega, by omega⟩
  clear N13 F13 acu hcI
  have RG := rigs_of ok0 ok1 in0 in1 h01 key1 subo sepM
  repeat (with_reducible rename Fr _ _ _ _ => z9; clear z9)
  repeat (with_reducible rename News _ _ _ _ => z9; clear z9)
  obtain ⟨X, hXe⟩ : ∃ X, X = rled r1 t1 own1 ++ rled r0 t0 [] := ⟨_, rfl⟩
  intro h14 tk14 F14 N14
  dsimp only
  rw [← hXe] at N14 D12 sep1
  clear ok0 ok1 in0 in1 h01 key0 key1 subo sepM sep0 l6 l60
  have once : Once := ⟨trivial⟩
  k_steps
  rename Fr T0.heap _ _ _ => F15
  revert F15
  show (let mk9 : Str → Option Value := _; Fr _ _ _ mk9 → _)
  intro mk9 F15
  rename News T0.heap _ _ _ => N15
  rename @LT.lt Nat _ _ _ ∧ @LT.lt Nat _ _ _ ∧ @LT.lt Nat _ _ _ ∧ @LT.lt Nat _ _ _ ∧ @LT.lt Nat _ _ _ ∧ @LT.lt Nat _ _ _ ∧ AllLt _ _ => g1
  rename @LT.lt Nat _ _ _ ∧ @LT.lt Nat _ _ _ ∧ @LT.lt Nat _ _ _ ∧ @LT.lt Nat _ _ _ ∧ @LT.lt Nat _ _ _ ∧ @LT.lt Nat _ _ _ ∧ @LT.lt Nat _ _ _ ∧ AllLt _ _ => g2
  rename @LT.lt Nat _ _ _ ∧ @LT.lt Nat _ _ _ ∧ @LT.lt Nat _ _ _ ∧ @LT.lt Nat _ _ _ ∧ @LT.lt Nat _ _ _ ∧ @LT.lt Nat _ _ _ ∧ @LT.lt Nat _ _ _ ∧ @LT.lt Nat _ _ _ ∧ AllLt _ _ => g3
  rename @LT.lt Nat _ _ _ ∧ @LT.lt Nat _ _ _ ∧ @LT.lt Nat _ _ _ ∧ @LT.lt Nat _ _ _ ∧ @LT.lt Nat _ _ _ ∧ @LT.lt Nat _ _ _ ∧ @LT.lt Nat _ _ _ ∧ @LT.lt Nat _ _ _ ∧ @LT.lt Nat _ _ _ ∧ AllLt _ _ => g4
  rename @LT.lt Nat _ _ _ ∧ @LT.lt Nat _ _ _ ∧ @LT.lt Nat _ _ _ ∧ @LT.lt Nat _ _ _ ∧ @LT.lt Nat _ _ _ ∧ @LT.lt Nat _ _ _ ∧ @LT.lt Nat _ _ _ ∧ @LT.lt Nat _ _ _ ∧ @LT.lt Nat _ _ _ ∧ @LT.lt Nat _ _ _ ∧ AllLt _ _ => g5
  obtain ⟨N16a, ho, hnew0, hdl, D16⟩ := deeds_start N15 D12 g1 g2.1 g3.1 g4.1 g5.1
  obtain ⟨newS, sorts, N16, hnew, hslS, hso, hd3⟩ := hide_deeds N16a hnew0
  clear N15 D12 g1 g2 g3 g4 g5 N16a hnew0
  try dsimp only
  refine ⟨For_invVF F15 rfl rfl ?_ (by intro _; rfl)⟩
  k_steps
  rename Fr T0.heap _ _ _ => F17
  refine ⟨pick_in B0 F17 X0 N16 T0 rfl ?_ ?_ (fok_deed D16 ho hnew hdl D16.iv D16.len) (by omega) (by omega) ?_⟩
  · show callerA.depth + 1 + 4 < 600; decide
  · show callerA.units + _ + 100 < 2000; decide
  intro k t h18 tk18 φ6 hk0 hk1 F18 N18 D18
  try dsimp only
  clear N16 F17
  k_steps
  rename Fr T0.heap _ _ _ => F19
  rename News T0.heap _ _ _ => N19
  obtain ⟨n, hn⟩ : ∃ n : Nat, 4 + k = (n : Int) := ⟨(4 + k).toNat, by omega⟩
  refine ⟨upto_J (DeedJ f _ _ _ _ _ _) rfl (by assumption) hn (by omega) F19 N19 ⟨φ6, _, _, _, rfl, stored_same, D18.iv, D18.len, hnew, hslS, rfl, hd3⟩ ?_ ?_⟩
  · clear hnew N19 F19 D18
    rintro i t20 m₁ nx h20 tk20 own hi hoff ⟨φ, vals, new, u, rfl, rfl, hI, hL, hnew, hsl, hlen, hdeed⟩ F20 N20
    have D20 := fok_own (fok_deed (o := listOf vals.toArray i) D16 ho hnew hdl hI hL) hoff
    k_steps
    rename Fr T0.heap _ _ _ => F21
    refine ⟨pick_in B0 F21 X0 N20 T0 rfl ?_ ?_ D20 (by omega) (by omega) ?_⟩
    · show callerA.depth + 1 + 4 < 600; decide
    · show callerA.units + _ + 100 < 2000; decide
    intro k2 t2 h22 tk22 φ7 hk2 hk3 F22 N22 D22
    try dsimp only
    clear N20 D20 F21
    k_steps
    rename Fr T0.heap _ _ _ => F23
    rename News T0.heap _ _ _ => N23
    refine ⟨pick_in B0 F23 X0 N23 T0 rfl ?_ ?_ D22 (by omega) (by omega) ?_⟩
    · show callerA.depth + 1 + 4 < 600; decide
    · show callerA.units + _ + 100 < 2000; decide
    intro k4 t4 h24 tk24 φ8 hk4 hk5 F24 N24 D24
    try dsimp only
    clear N23 D22 F23
    obtain ⟨sr, ts, hx⟩ := hso k4.toNat (by omega)
    have N25 := news_sub N24 (cons_in (.tail _ (.tail _ (List.mem_append_left _ (.tail _ (List.mem_append_left _ hsl))))) fun p hp => hp)
    clear N24
    k_steps
    rename Fr T0.heap _ _ _ => F26
    rename News T0.heap _ _ _ => N26
    refine ⟨pick_in B0 F26 X0 (news_sub N26 fun p hp => .tail _ hp) T0 rfl ?_ ?_ D24 (by omega) (by omega) ?_⟩
    · show callerA.depth + 1 + 4 < 600; decide
    · show callerA.units + _ + 100 < 2000; decide
    intro k6 t6 h27 tk27 φ9 hk6 hk7 F27 N27 D27
    try dsimp only
    obtain ⟨nn, rfl⟩ : ∃ nn : Nat, k6 = (nn : Int) := ⟨k6.toNat, by omega⟩
    clear N26 F26 D24 hx
    k_steps
    rename Fr T0.heap _ _ _ => F28
    rename News T0.heap _ _ _ => N28
    rename @LT.lt Nat _ _ _ ∧ @LT.lt Nat _ _ _ ∧ @LT.lt Nat _ _ _ ∧ AllLt _ _ => l28
    refine ⟨pick_in B0 F28 X0 (fled_push N28) T0 rfl ?_ ?_ (D27.push l28.1 l28.2.1) (by omega) (by omega) ?_⟩
    · show callerA.depth + 1 + 4 < 600; decide
    · show callerA.units + _ + 100 < 2000; decide
    intro k8 t8 h29 tk29 φ10 hk8 hk9 F29 N29 D29
    try dsimp only
    obtain ⟨x, t9, hx2, hok⟩ := text_at (k := k8.toNat) N28 (by omega)
    obtain ⟨N30, adl⟩ := deed_front N29 ho hnew hdl (fun p hp => hoff p hp _ (.tail _ (.tail _ (.head _))))
    have hvl : vals.length ≤ 100 := by omega
    have dtx : Dif _ _ := ⟨Nat.ne_of_lt (allLt_mem l28.2.2 _ (List.Mem.head _))⟩
    dsimp only at dtx
    clear N28 N29 F28 D27
    k_steps
    rename Fr T0.heap _ _ _ => F31
    rename News T0.heap _ _ _ => N31
    rename @LT.lt Nat _ _ _ ∧ @LT.lt Nat _ _ _ ∧ @LT.lt Nat _ _ _ ∧ @LT.lt Nat _ _ _ ∧ AllLt _ _ => l31
    refine Hold.mk (deed_turn_end (φ := φ) (φ0 := φ) F31 N31 l31 ?_ D29.iv D29.len hnew hdl hsl hlen hdeed ?_ ?_ hok hoff)
    rotate_left
    · omega
    · omega
    intro z hz
    have hz0 := hz
    simp only [List.contains_cons, List.contains_nil, Bool.or_eq_false_iff, beq_eq_false_iff_ne] at hz
    obtain ⟨a1, a2, a3, _⟩ := hz
    dsimp only
    rw [if_neg a3, if_neg a2, if_neg a1, if_neg (by rw [hz0]; decide)]
  · clear hnew N19 F19 D18
    rintro m₁ nx h40 tk40 ⟨φ8, vals, new, u, rfl, rfl, hI, hL, hnew, hsl, hlen, hdeed⟩ F40 N40
    obtain ⟨base, N41, RG2, hwo, hso, hcu, hdl2, hbn⟩ := main_base N40 hXe (fun p hp => ⟨(sep1 p hp).1, (sep1 p hp).2.1, (sep1 p hp).2.2.1, trivial⟩) ho hnew hdl RG rfl rfl rfl
    clear N40 D16 sep1 RG hXe ho hnew hdl hsl
    have once : Once := ⟨trivial⟩
    k_steps
    rename Fr T0.heap _ _ _ => F42
    revert F42
    show (let mk8 : Str → Option Value := _; Fr _ _ _ mk8 → _)
    intro mk8 F42
    try dsimp only
    refine ⟨For_turns F42 ?_⟩
    k_steps
    rename Fr T0.heap _ _ _ => F43
    refine ⟨turns_J (vs := vals) (nn := n) (MainJ _ r0 r1 base _) rfl (mainJ_mem hdl2) F43 N41 (mainJ_start RG2 sp0 se0 sp1 se1) ?_ ?_⟩
    · clear N41 RG2 F43 sp0 se0 sp1 se1
      rintro i v m₁ nx h44 tk44 own hv hoff hcls ⟨ta, tb, more, u5, rfl, rfl, RGm, b1, b2, b3, b4⟩ F44 N44
      have hi : i < vals.length := (List.getElem?_eq_some_iff.mp hv).1
      obtain ⟨y, kk, u1, sr, u2, nn, u3, x, u4, rfl, hy, hkk, hnn, hxx⟩ := hdeed i v hv
      obtain ⟨N45, RG3⟩ := main_open N44 RGm hoff
      obtain ⟨a, b, sa, sb, N46, RG4, c1, c2, lk, gk, k0, k1, -, fin⟩ := on_rig N45 hkk RG3 ⟨b1, b2⟩ ⟨b3, b4⟩
      have hE : ∀ p ∈ base, p ∈ base ++ more ++ own := fun p hp => List.mem_append_left _ (List.mem_append_left _ hp)
      obtain ⟨Z, hZ, N47⟩ := front4 N46 two_in (hE _ (hbn _ hy)) (hE _ hwo) (hE _ hcu) (hE _ hso)
      have lw := (lk (.ref r0.W.wd) (.ref r1.W.wd)).trans (congrArg some (gk fun r => Value.ref r.W.wd))
      have lc := (lk (.ref r0.c.xc) (.ref r1.c.xc)).trans (congrArg some (gk fun r => Value.ref r.c.xc))
      clear N44 N45 N46 RGm RG3 lk gk b1 b2 b3 b4
      k_steps
      rename Fr T0.heap _ _ _ => F48
      rename News T0.heap _ _ _ => N48
      refine ⟨due_rig sr B0 F48 X0 (back4 N48 hZ) T0 rfl ?_ ?_ RG4 (by omega) hnn ?_⟩
      · show callerA.depth + 1 + 24 < 600; decide
      · show callerA.units + _ + 200 < 2000; decide
      intro rd h49 tk49 od' e1 F49 N49 RG5 far1 is1 an1
      try dsimp only
      have hd1 := ans_handed an1
      have hE1 : ∀ p ∈ base, p ∈ base ++ more ++ own ++ e1 := fun p hp => List.mem_append_left _ (hE p hp)
      obtain ⟨Z2, hZ2, N50⟩ := front4 N49 two_in (hE1 _ (hbn _ hy)) (hE1 _ hwo) (hE1 _ hcu) (hE1 _ hso)
      clear N48 N49 F48 hZ RG4
      k_steps
      rename Fr T0.heap _ _ _ => F51
      rename News T0.heap _ _ _ => N51
      refine ⟨told_rig sr B0 F51 X0 (back4 N51 hZ2) T0 rfl ?_ ?_ RG5 (by omega) hnn is1 ?_⟩
      · show callerA.depth + 1 + 24 < 600; decide
      · show callerA.units + _ + 200 < 2000; decide
      intro rt h52 tk52 σ' e2 F52 N52 RG6 far2 an2
      try dsimp only
      have hd2 := ans_handed an2
      obtain ⟨s0, s1, RG7, sub7, bnd7⟩ := fin _ _ _ RG6
      have hE2 : ∀ p ∈ base, p ∈ base ++ more ++ own ++ e1 ++ e2 := fun p hp => List.mem_append_left _ (hE1 p hp)
      obtain ⟨Z3, hZ3, N54⟩ := front4 (news_sub N52 sub7) two_in (hE2 _ (hbn _ hy)) (hE2 _ hwo) (hE2 _ hcu) (hE2 _ hso)
      have good := sr.good RG6.oka.good sa.sp nn x hxx
      have an1 := an1.mono (ex' := base ++ more ++ own ++ e1 ++ e2) sub_app
      have bnd := bnd7 ⟨Nat.le_trans (sr.sp_le _ _ _) (by omega), Nat.le_trans (sr.se_le _ _ _ _ _ hnn) (by omega)⟩ ⟨by omega, by omega⟩
      clear N51 N52 F51 hZ2 RG5 is1 fin sub7 bnd7 RG6
      have twice : Twice := ⟨trivial⟩
      k_steps
      rename Fr T0.heap _ _ _ => F55
      rename News T0.heap _ _ _ => N55
      refine ⟨ne_ans (fun p hp => (back4 N55 hZ3 p (two_in p hp)).1) an2 an1 good (by first | k_units | fail) ?_⟩
      have hbb : ∀ b : Bool, (b != b) = false := fun b => by cases b <;> rfl
      clear twice
      k_steps
      rename News T0.heap _ _ _ => N56
      refine ⟨isb_ans (fun p hp => (back4 N56 hZ3 p (two_in p hp)).1) an2 good fun tk56 => ?_⟩
      k_steps
      rename News T0.heap _ _ _ => N57
      refine ⟨isb_ans (fun p hp => (back4 N57 hZ3 p (two_in p hp)).1) an1 good fun tk57 => ?_⟩
      k_steps
      rename Fr T0.heap _ _ _ => F59
      rename News T0.heap _ _ _ => N59
      try dsimp only
      refine ⟨For_invVF F59 rfl rfl ?_ (by intro _; rfl)⟩
      k_steps
      rename Fr T0.heap _ _ _ => F60
      rename News T0.heap _ _ _ => N60
      refine ⟨upto_J (n := 2) (StandJ _ _) rfl (by assumption) rfl (by omega) F60 N60 ⟨_, rfl, stored_same⟩ ?_ ?_⟩
      · clear N60 F60 an1 an2 good hd1 hd2
        rintro k2 t5 m₂ nx h61 tk61 own2 hk2 hoff2 ⟨u6, rfl, rfl⟩ F61 N61
        obtain ⟨N62, RG8⟩ := stand_open N61 hZ3 RG7 hoff2
        obtain ⟨a2, b2, ta2, tb2, N63, RG9, c3, c4, lk, gk, -, -, sub9, -⟩ := on_rig (k := (k2 : Int)) (i := i + 1) N62 (by omega) RG8 bnd.1 bnd.2
        have hE3 : ∀ p ∈ base, p ∈ base ++ more ++ own ++ e1 ++ e2 ++ own2 := fun p hp => List.mem_append_left _ (hE2 p hp)
        obtain ⟨Z4, hZ4, N64⟩ := front4 N63 two_in (hE3 _ (hbn _ hy)) (hE3 _ hwo) (hE3 _ hcu) (hE3 _ hso)
        have lw2 := (lk (.ref r0.W.wd) (.ref r1.W.wd)).trans (congrArg some (gk fun r => Value.ref r.W.wd))
        have lc2 := (lk (.ref r0.c.xc) (.ref r1.c.xc)).trans (congrArg some (gk fun r => Value.ref r.c.xc))
        have ls2 := (lk (.ref r0.c.xs) (.ref r1.c.xs)).trans (congrArg some (gk fun r => Value.ref r.c.xs))
        clear N61 N62 N63 lk gk
        k_steps
        rename Fr T0.heap _ _ _ => F65
        rename News T0.heap _ _ _ => N65
        refine ⟨stands_rig B0 F65 X0 (back4 N65 hZ4) T0 rfl ?_ ?_ RG9 (by omega) ?_⟩
        · show callerA.depth + 1 + 24 < 600; decide
        · show callerA.units + _ + 200 < 2000; decide
        intro h66 tk66 F66 N66
        try dsimp only
        clear N65 F65
        k_steps
        rename Fr T0.heap _ _ _ => F67
        rename News T0.heap _ _ _ => N67
        refine ⟨stand_end F67 N67 hZ3 sub9 (hE2 _ (hbn _ hy)) (hE2 _ hwo) (hE2 _ hcu) (hE2 _ hso) hoff2 (fun z hz => ?_)⟩
        have hz0 := hz
        simp only [List.contains_cons, List.contains_nil, Bool.or_eq_false_iff, beq_eq_false_iff_ne] at hz
        obtain ⟨a1, _⟩ := hz
        dsimp only
        rw [if_neg a1, if_neg (by rw [hz0]; decide)]
      · clear N60 F60
        rintro m₂ nx h70 tk70 ⟨u6, rfl, rfl⟩ F70 N70
        k_steps
        rename Fr T0.heap _ _ _ => F71
        rename News T0.heap _ _ _ => N71
        refine ⟨main_close F71 (back4 N71 hZ3) RG7 hoff hcls far1 far2 (fun z hz => ?_) bnd⟩
        have hz0 := hz
        simp only [List.contains_cons, List.contains_nil, Bool.or_eq_false_iff, beq_eq_false_iff_ne] at hz
        obtain ⟨a1, a2, a3, a4, a5, a6, a7, _⟩ := hz
        dsimp only
        rw [if_neg (by simp [a7]), if_neg a6, if_neg a5, if_neg a4, if_neg a3, if_neg a2, if_neg a1, if_neg (by rw [hz0]; decide)]
    · clear N41 RG2 F43
      rintro m₁ nx h80 tk80 ⟨ta, tb, more, u5, rfl, rfl, -⟩ F80 N80
      k_steps
end
end Mine
theorem PySem.Challenge.cw_sj0029_01_holds : PySem.Challenge.rw_sj0029_01.Holds := by
  exact Mine.law_holds
