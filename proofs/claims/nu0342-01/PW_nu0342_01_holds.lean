import PyProof.Rows.All
import Wide.All
import OpenK.AllK
import Wide.FinOn
import Lean
import PySem.Challenge.RW_nu0342_01
open PySem PySem.W PyProof.Rows
set_option Elab.async false
set_option maxRecDepth 100000
set_option maxHeartbeats 8000000
namespace Mine
/-- the statements of the text's top that the head looks at -/
def top : Program := PySem.W.view PySem.Challenge.rw_nu0342_01.row.toRowW.prog [0, 2, 3, 4, 5, 6, 7, 8, 9, 10, 12, 14, 15, 16, 17, 18, 19, 20, 21, 22, 24, 25, 27, 28, 30, 31, 32, 33, 34]
theorem both {α β γ : Type} {o : Option α} {f : α → β} {g : α → γ} {a : β} {b : γ} (h1 : o.map f = some a) (h2 : o.map g = some b) : o.map (fun s => (f s, g s)) = some (a, b) := by
  cases o with
  | none => cases h1
  | some s =>
    have e1 : f s = a := Option.some.inj h1
    have e2 : g s = b := Option.some.inj h2
    show some (f s, g s) = some (a, b)
    rw [e1, e2]
theorem said_law : OpenLaw.wellSaid PySem.Challenge.rw_nu0342_01 = true := by kernel_rfl
theorem seen_top : ∀ w : World, Option.map (fun s => openSeen top [Str.ofString "Names"] (importedModules PySem.Challenge.rw_nu0342_01.row.toRowW.prog.main.body) (fun s => xlAt top [] s && recOk (RowW.records PySem.Challenge.rw_nu0342_01.row.toRowW) s) true s) (openEnds treeTable PySem.Challenge.rw_nu0342_01.row.toRowW.prog w 6014) = some (openGood top [Str.ofString "Names"]) := by
  intro w
  delta PySem.W.openEnds PySem.W.topFrom PySem.W.fencedOpening
  rewrite [PySem.W.Fast.te4187177175401517315, PySem.W.Fast.te14082659384304107361, PySem.W.Fast.te14364793385576792824, PySem.W.Fast.te10274390034422433532, PySem.W.Fast.te14289696077712309145]
  kernel_rfl
end Mine
open Mine
local macro_rules | `(tactic| o_law) => `(tactic| refine PySem.W.holds_law said_law fun said => ?_)
local macro_rules | `(tactic| o_head $H:term) => `(tactic| (
  refine PySem.W.holds_open (q := top) (loose := [Str.ofString "Names"]) (Xt := fun s => xlAt top [] s && recOk (RowW.records PySem.Challenge.rw_nu0342_01.row.toRowW) s) (XP := XL top []) (Yf := Hook.obs $H) (Ya := Hook.val $H) (YP := Hook.says $H) (N := 6014) ?hl (Hook.of $H) (Hook.keeps $H) (fun s e => xl_of s (Bool.and_eq_true_iff.mp e).1) XL.keeps (by rfl) (by rfl) (by rfl) (fun s e => recFacts_of (Bool.and_eq_true_iff.mp e).2) (by rfl) (by first | assumption | decide +kernel) (by decide +kernel) ⟨rfl, rfl, rfl, rfl, rfl, by decide +kernel⟩ ?hw ?hc
  case hl => (intro w; refine both (seen_top w) ?_; delta PySem.W.openEnds PySem.W.topFrom PySem.W.fencedOpening; rewrite [PySem.W.Fast.te14082659384304107361, PySem.W.Fast.te14364793385576792824, PySem.W.Fast.te10274390034422433532, PySem.W.Fast.te14289696077712309145]; kernel_rfl)))
open_top hd for PySem.Challenge.rw_nu0342_01
set_option linter.all false
set_option compiler.extract_closed false
set_option genInjectivity false
open PySem PySem.W PyProof.Rows PySem.Calls PySem.Spec
set_option Elab.async false
set_option maxRecDepth 100000
set_option maxHeartbeats 4000000
example : True := by
  w_top off
  trivial
namespace Mine
/-- all that stood stands, but at the addresses as -/
def Kept (as : List Addr) (h h' : Heap) : Prop := ∀ b o, b ∉ as → h.get? b = some o → h'.get? b = some o


/-- what a call of f upon vs does: own is what it may turn -/
abbrev Sp (prog : Program) (w : World) (mean : ExcName → Option Value) (mg mb : Str → Option Value) (f : Addr) (need : Nat) (vs : List Value) (own : List (Addr × Obj)) (Post : Heap → Heap → Value → Prop) : Prop :=
  ∀ (dp un : Nat) (gd : Option (List Code)) (cn : Str) (cs : Scope) (a : Addr) (ccd : Value) (cl : List (Str × Addr)) (outer : List Env)
    (A₀ : Around) (base h₀ : Heap) (L : Addr) (m : Str → Option Value) (s : Shared) (Q E : Value → Shared → Prop),
    Below A₀ base outer h₀ → Fr h₀ L s.heap m → (hd.heap_1 w.params).In h₀ → News h₀ L s.heap own → Top top (looseW top [Str.ofString "Names"]) mean mg mb h₀ → cs.kind = .function →
    dp + need < recursionLimit → un + 8 * need < cLine →
    (∀ v h' tk', Kept (own.map (·.1)) s.heap h' → Post s.heap h' v → Q v { s with heap := h', toks := tk' }) →
    wpAny (model prog w) (ktrTop dp un gd cn cs L a ccd cl outer) (call (.ref f) vs) Q E s

section
variable {prog : Program} {w : World} {A A₀ : Around} {s : Shared} {h₀ base : Heap} {L a : Addr} {m mg mb : Str → Option Value} {own : List (Addr × Obj)} {K : Frag} {p : Program} {loose : List Str} {mean : ExcName → Option Value}
    {env : Env} {outer : List Env} {R : Result → Shared → Prop} {name qual : Str} {params : Arguments} {body : List Stmt} {scope : Scope} {dV kV doc pm cdv ct oc : Value} {an od : Option Addr} {osl : Array (Option Value)} {f : Addr} {args : Args} {binds : List (Str × Value)}

theorem enter_own (B : Below A₀ base outer h₀) (F : Fr h₀ L s.heap m) (X₀ : K.In h₀) (N : News h₀ L s.heap own) (T : Top p loose mean mg mb h₀)
    (hA : A.frames = some (env :: outer)) (hf : env.frame = some L) (hke : env.scope.kind = .function)
    (ho : K.lookup f = some ⟨oc, od, .func (fnOf name qual params body scope dV kV doc pm an cdv ct), osl⟩) (hcd : codeIn K cdv qual = true) (hroom : A.depth < recursionLimit)
    (hbind : BindsTo s (fnOf name qual params body scope dV kV doc pm an cdv ct) args binds) (hloc : ∀ y ∈ binds, scope.names.lookup y.1 = some .local)
    (h : ∀ g L' h₁, Kept (own.map (·.1)) s.heap g → (∀ b o, g.get? b = some o → s.heap.get? b = some o) → Fr g L' h₁ (fun y => binds.reverse.lookup y) → News g L' h₁ own → Below A base (env :: outer) g → K.In g → Top p loose mean mg mb g → (∀ p ∈ own, p.1 < L') → s.heap.objs.size ≤ L' →
      wpAny (model prog w) (A.deeper (envOf qual scope L' f cdv)) (execs body (envOf qual scope L' f cdv))
        (fun fl s' => R (.ok (.ret (match fl with | .ret v => v | _ => .none))) s')
        (fun e s' => wpAny (model prog w) (A.deeper (envOf qual scope L' f cdv)) (leaving (envOf qual scope L' f cdv) e) (fun _ s'' => R (.error e) s'') (fun e' s'' => R (.error e') s'') s')
        { s with heap := h₁, toks := s.toks + binds.length })
    (hco : scope.isCoroutine = false) (hgen : scope.isGenerator = false) (hk : scope.kind = .function)
    (hcell : ∀ x ∈ scope.names, x.2 ≠ .cell) : codeAny (model prog w) A (.call (.ref f) args) R s := by
  obtain ⟨FG, BG, st, _⟩ := groundX (R := R) B F N hA hf hke
  have X := X₀.keeps F.keep
  refine codeAny_call_def (fd := fnOf name qual params body scope dV kV doc pm an cdv ct) (body := body) (binds := binds) hroom (X _ _ ho) rfl (T.nolimit.keeps F.keep) (codeRec_of X hcd) rfl hbind hcell hloc (fun h₁ hns hk₁ => ?_) hco hgen hk
  exact h (hideAll s.heap (own.map (·.1))) s.heap.objs.size h₁ (fun b o hb e => hideAll_get _ e hb) (fun b o e => of_hideAll _ e)
    ⟨hns, fun b o e => hk₁ b o (of_hideAll _ e), Nat.le_of_eq (hideAll_size _ _)⟩
    (fun q hq => ⟨hk₁ _ _ (N q hq).1, Nat.ne_of_lt (Heap.lt_size (N q hq).1), hideAll_none _ (List.mem_map_of_mem hq)⟩) BG (X₀.keeps fun b o e => st b o e) (T.keeps fun b o e => st b o e) (fun q hq => Heap.lt_size (N q hq).1) (Nat.le_refl _)
end

section
variable {h₀ h h' : Heap} {L : Addr} {m : Str → Option Value} {news own : List (Addr × Obj)}
theorem Kept.fr (H : Kept (own.map (·.1)) h h') (F : Fr h₀ L h m) (N : News h₀ L h own) : Fr h₀ L h' m := by
  obtain ⟨oL, es, ep, hL, hLd, hLk, hLf⟩ := F.ns
  have nL : L ∉ own.map (·.1) := fun q => by
    obtain ⟨p, hp, e⟩ := List.mem_map.mp q
    exact (N p hp).2.1 e
  have nm : ∀ b o, h₀.get? b = some o → b ∉ own.map (·.1) := fun b o e q => by
    obtain ⟨p, hp, rfl⟩ := List.mem_map.mp q
    rw [(N p hp).2.2] at e; cases e
  exact ⟨⟨oL, es, ep, H _ _ nL hL, hLd, hLk, hLf⟩, fun b o e => H b o (nm b o e) (F.keep b o e), F.above⟩
theorem Kept.led (H : Kept (own.map (·.1)) h h') (N : News h₀ L h news) (hd : ∀ p ∈ news, p.1 ∉ own.map (·.1)) : News h₀ L h' news :=
  fun p hp => ⟨H _ _ (hd p hp) (N p hp).1, (N p hp).2⟩
theorem Kept.led0 (H : Kept [] h h') (N : News h₀ L h news) : News h₀ L h' news :=
  fun p hp => ⟨H _ _ (by simp) (N p hp).1, (N p hp).2⟩
theorem news_sub {news' : List (Addr × Obj)} (N : News h₀ L h news) (hs : ∀ p ∈ news', p ∈ news) : News h₀ L h news' := fun p hp => N p (hs p hp)
/-- a thing that was not there -/
theorem news_cons {x : Addr} {o : Obj} (F : Fr h₀ L h m) (N : News h₀ L h' news) (hx : h.get? x = none) (ho : h'.get? x = some o) : News h₀ L h' ((x, o) :: news) := by
  intro p hp
  rcases List.mem_cons.mp hp with rfl | hp
  · obtain ⟨oL, es, ep, hL, hLd, hLk, hLf⟩ := F.ns
    refine ⟨ho, fun e => ?_, ?_⟩
    · have e' : x = L := e
      rw [e', hL] at hx; cases hx
    · cases q : h₀.get? x with
      | none => rfl
      | some o' => rw [F.keep _ _ q] at hx; cases hx
  · exact N p hp
theorem ne_of_new {x : Addr} (N : News h₀ L h news) (hx : h.get? x = none) : ∀ p ∈ news, p.1 ≠ x := fun p hp e => by
  have := (N p hp).1; rw [e, hx] at this; cases this
end

/-- a call that turns nothing and gives back R -/
abbrev SpV (prog : Program) (w : World) (mean : ExcName → Option Value) (mg mb : Str → Option Value) (f : Addr) (need : Nat) (vs : List Value) (R : Tok → Value) : Prop :=
  Sp prog w mean mg mb f need vs [] (fun _ _ v => ∃ t : Tok, v = R t)
section
variable {prog : Program} {w : World} {mean : ExcName → Option Value} {mg mb : Str → Option Value} {f : Addr} {need : Nat} {vs : List Value} {own : List (Addr × Obj)} {Post : Heap → Heap → Value → Prop}
  {dp un : Nat} {gd : Option (List Code)} {cn : Str} {cs : Scope} {a : Addr} {ccd : Value} {cl : List (Str × Addr)} {outer : List Env}
  {A₀ : Around} {base h₀ : Heap} {L : Addr} {m : Str → Option Value} {s : Shared} {Q E : Value → Shared → Prop}
theorem sp_use (H : Sp prog w mean mg mb f need vs own Post) (B : Below A₀ base outer h₀) (F : Fr h₀ L s.heap m) (X : (hd.heap_1 w.params).In h₀) (N : News h₀ L s.heap own) (T : Top top (looseW top [Str.ofString "Names"]) mean mg mb h₀) (hck : cs.kind = .function)
    (hdp : dp + need < recursionLimit) (hun : un + 8 * need < cLine)
    (hret : ∀ v h' tk', Fr h₀ L h' m → Kept (own.map (·.1)) s.heap h' → Post s.heap h' v → Q v { s with heap := h', toks := tk' }) :
    wpAny (model prog w) (ktrTop dp un gd cn cs L a ccd cl outer) (call (.ref f) vs) Q E s :=
  H dp un gd cn cs a ccd cl outer A₀ base h₀ L m s Q E B F X N T hck hdp hun fun v h' tk' k p => hret v h' tk' (k.fr F N) k p
/-- a call that turns nothing -/
theorem sp_pure {news : List (Addr × Obj)} {R : Tok → Value} (H : SpV prog w mean mg mb f need vs R) (B : Below A₀ base outer h₀) (F : Fr h₀ L s.heap m) (X : (hd.heap_1 w.params).In h₀) (N : News h₀ L s.heap news) (T : Top top (looseW top [Str.ofString "Names"]) mean mg mb h₀) (hck : cs.kind = .function)
    (hdp : dp + need < recursionLimit) (hun : un + 8 * need < cLine)
    (hret : ∀ t h' tk', Fr h₀ L h' m → News h₀ L h' news → Q (R t) { s with heap := h', toks := tk' }) :
    wpAny (model prog w) (ktrTop dp un gd cn cs L a ccd cl outer) (call (.ref f) vs) Q E s :=
  sp_use H B F X News.nil T hck hdp hun fun v h' tk' F' k p => by
    obtain ⟨t, rfl⟩ := p
    exact hret t h' tk' F' (Kept.led0 k N)
theorem end_kept {as : List Addr} {h g h' : Heap} {L' : Addr} {m' : Str → Option Value} (hg : Kept as h g) (F : Fr g L' h' m') : Kept as h h' := fun b o hb e => F.keep b o (hg b o hb e)
end

theorem lits : (Str.ofString "0").length = 1 ∧ (Str.ofString "H").length = 1 ∧ (Str.ofString "X").length = 1 ∧ (Str.ofString "\"").length = 1 ∧ (Str.ofString "..").length = 2 ∧ (Str.ofString ", ").length = 2 ∧ (Str.ofString "{").length = 1 ∧ (Str.ofString "}").length = 1 ∧ (Str.ofString ".VAL(").length = 5 ∧ (Str.ofString ")").length = 1 ∧ (Str.ofString "CHR(").length = 4
    ∧ (Str.ofString "CHAR").length = 4 ∧ (Str.ofString "BYTE").length = 4 ∧ (Str.ofString "SYSTEM").length = 6 ∧ (Str.ofString "").length = 0 ∧ (Str.ofString "SYSTEM.VAL(BYTE, ").length = 17 ∧ (Str.ofString "SYSTEM.VAL(CHAR, ").length = 17 ∧ sizeLine = 16777216 := by decide
theorem len_mk1 {n : Nat} : (Str.mk #[n]).length = 1 := rfl
theorem mulOk_r {a b : Int} (h : b.natAbs < 18446744073709551616) : IntMulOk a b := by
  refine IntMulOk.of_right ?_
  unfold Builtin.Int.intBits
  split
  · decide
  · rename_i h0
    have : b.natAbs.log2 < 64 := (Nat.log2_lt (by simpa using h0)).mpr h
    omega
theorem fits_of {i : Int} (h1 : -9223372036854775808 ≤ i) (h2 : i < 9223372036854775808) : fitsSsize i = true := by unfold fitsSsize; simp; omega
/-- a place where the walk waits -/
def waitT {α : Type} (t : Sem α) : Sem α := t
theorem wait {α : Type} {M : Model} {A : Around} {t : Sem α} {Q : α → Shared → Prop} {E : Value → Shared → Prop} {s : Shared} (h : wpAny M A (waitT t) Q E s) : wpAny M A t Q E s := h
theorem strs_snoc {vs : List Value} {ys : List Str} {y : Str} {t : Tok} (h : StrsAre vs ys) : StrsAre (vs ++ [.str y t]) (ys ++ [y]) := h.append' (.cons _ _ .nil)
def WaitP (P : Prop) : Prop := P
theorem waitP {P : Prop} (h : WaitP P) : P := h
section
variable {prog : Program} {w : World} {A : Around} {s : Shared} {h₀ : Heap} {L : Addr} {m : Str → Option Value} {own : List (Addr × Obj)} {K : Frag} {R : Result → Shared → Prop} {C : Addr}
theorem make_own {rest : List Value} {kw : List (Str × Value)} {fI : Addr} (F : Fr h₀ L s.heap m) (N : News h₀ L s.heap own) (X : K.In s.heap) (hm : makesIn K C = true)
    (hi : findIn K (.ref C) "__init__" = some (some (.ref fI))) (hf : typeIn K (.ref fI) = some (.type "function"))
    (h : ∀ x dx h', (∀ b o, s.heap.get? b = some o → h'.get? b = some o) → s.heap.get? x = none → s.heap.get? dx = none → Fr h₀ L h' m → News h₀ L h' ((x, instObj C dx) :: (dx, emptyDict) :: own) → (∀ p ∈ own, p.1 < dx) → dx < x → s.heap.objs.size ≤ dx →
      codeAny (model prog w) (A.under (.builtin "type.__call__" ⟨.ref C :: rest, kw⟩)) (.call (.ref fI) ⟨.ref x :: rest, kw⟩) (InitBack x R) { s with heap := h' }) :
    codeAny (model prog w) A (.call (.ref C) ⟨rest, kw⟩) R s := by
  obtain ⟨hh, g, d, t, os⟩ := s
  have no : ∀ b, hh.objs.size ≤ b → hh.get? b = none := fun b hb => by
    cases q : hh.get? b with
    | none => rfl
    | some o => exact absurd (Heap.lt_size q) (Nat.not_lt.mpr hb)
  refine make_core (makes_of X hm) (looks_findIn X hi) (fun self => bind_fn X self hf) (.inl rfl)
    (h _ hh.objs.size _ (fun b o e => Heap.get?_push_of_some _ (Heap.get?_push_of_some _ e)) (no _ (Nat.le_succ _)) (no _ (Nat.le_refl _)) ((F.push _).push _) ?_ (fun p hp => Heap.lt_size (N p hp).1) (Nat.lt_succ_self _) (Nat.le_refl _))
  have := (N.push F emptyDict).push (F.push _) (instObj C hh.objs.size)
  rwa [Heap.size_push] at this
theorem kept_new {x dx : Addr} {ox od : Obj} {h g : Heap} {h1 : Heap} (k : Kept (((x, ox) :: (dx, od) :: own).map (·.1)) h1 g) (st : ∀ b o, h.get? b = some o → h1.get? b = some o) (hx : h.get? x = none) (hd : h.get? dx = none) :
    Kept (own.map (·.1)) h g := fun b o hb e => k b o (fun q => by
      rcases List.mem_cons.mp q with q | q
      · have q' : b = x := q
        rw [q', hx] at e; cases e
      rcases List.mem_cons.mp q with q | q
      · have q' : b = dx := q
        rw [q', hd] at e; cases e
      · exact hb q) (st b o e)
end
/-- a call that reads own, turns nothing, and gives back R -/
abbrev SpR (prog : Program) (w : World) (mean : ExcName → Option Value) (mg mb : Str → Option Value) (f : Addr) (need : Nat) (vs : List Value) (own : List (Addr × Obj)) (R : Value → Prop) : Prop :=
  Sp prog w mean mg mb f need vs own (fun h h' v => Kept [] h h' ∧ R v)
theorem end_read {own : List (Addr × Obj)} {h g h' : Heap} {L' : Addr} {m' : Str → Option Value} {news' : List (Addr × Obj)} (hg : Kept (own.map (·.1)) h g) (hO : ∀ p ∈ own, h.get? p.1 = some p.2) (F : Fr g L' h' m') (N : News g L' h' news') (hs : ∀ p ∈ own, p ∈ news') : Kept [] h h' := by
  intro b o _ e
  by_cases q : b ∈ own.map (·.1)
  · obtain ⟨p, hp, rfl⟩ := List.mem_map.mp q
    rw [hO p hp] at e
    cases e
    exact (N p (hs p hp)).1
  · exact F.keep b o (hg b o q e)
/-- what is at hand of own' behind the call: own's addresses, or new ones -/
def Gives (own own' : List (Addr × Obj)) (h h' : Heap) : Prop := ∀ p ∈ own', h'.get? p.1 = some p.2 ∧ (p.1 ∈ own.map (·.1) ∨ h.get? p.1 = none)
theorem news_gives {own own' : List (Addr × Obj)} {h₀ h h' : Heap} {L : Addr} {m : Str → Option Value} (F : Fr h₀ L h m) (N : News h₀ L h own) (G : Gives own own' h h') : News h₀ L h' own' := by
  intro p hp
  obtain ⟨h1, h2 | h2⟩ := G p hp
  · obtain ⟨q, hq, e⟩ := List.mem_map.mp h2
    exact ⟨h1, e ▸ (N q hq).2.1, e ▸ (N q hq).2.2⟩
  · obtain ⟨oL, es, ep, hL, _⟩ := F.ns
    refine ⟨h1, fun e => ?_, ?_⟩
    · rw [e, hL] at h2; cases h2
    · cases q : h₀.get? p.1 with
      | none => rfl
      | some o' => rw [F.keep _ _ q] at h2; cases h2
section
variable {prog : Program} {w : World} {mean : ExcName → Option Value} {mg mb : Str → Option Value} {f : Addr} {need : Nat} {vs : List Value} {own : List (Addr × Obj)} {Post : Heap → Heap → Value → Prop}
  {dp un : Nat} {gd : Option (List Code)} {cn : Str} {cs : Scope} {a : Addr} {ccd : Value} {cl : List (Str × Addr)} {outer : List Env}
  {A₀ : Around} {base h₀ : Heap} {L : Addr} {m : Str → Option Value} {s : Shared} {Q E : Value → Shared → Prop}
theorem sp_read {news : List (Addr × Obj)} {R : Value → Prop} (H : SpR prog w mean mg mb f need vs own R) (B : Below A₀ base outer h₀) (F : Fr h₀ L s.heap m) (X : (hd.heap_1 w.params).In h₀) (N : News h₀ L s.heap news) (T : Top top (looseW top [Str.ofString "Names"]) mean mg mb h₀) (hck : cs.kind = .function)
    (ho : ∀ p ∈ own, p ∈ news) (hdp : dp + need < recursionLimit) (hun : un + 8 * need < cLine)
    (hret : ∀ v h' tk', R v → Fr h₀ L h' m → News h₀ L h' news → Q v { s with heap := h', toks := tk' }) :
    wpAny (model prog w) (ktrTop dp un gd cn cs L a ccd cl outer) (call (.ref f) vs) Q E s :=
  sp_use H B F X (news_sub N ho) T hck hdp hun fun v h' tk' F' _ p => hret v h' tk' p.2 F' (Kept.led0 p.1 N)
theorem sp_led {news rest : List (Addr × Obj)} (H : Sp prog w mean mg mb f need vs own Post) (B : Below A₀ base outer h₀) (F : Fr h₀ L s.heap m) (X : (hd.heap_1 w.params).In h₀) (N : News h₀ L s.heap news) (T : Top top (looseW top [Str.ofString "Names"]) mean mg mb h₀) (hck : cs.kind = .function)
    (ho : ∀ p ∈ own, p ∈ news) (hr : ∀ p ∈ rest, p ∈ news) (hd : ∀ p ∈ rest, p.1 ∉ own.map (·.1)) (hdp : dp + need < recursionLimit) (hun : un + 8 * need < cLine)
    (hret : ∀ v h' tk', Post s.heap h' v → Fr h₀ L h' m → (∀ own', Gives own own' s.heap h' → News h₀ L h' (own' ++ rest)) → (∀ x p, p ∈ rest → s.heap.get? x = none → x ≠ p.1) → Q v { s with heap := h', toks := tk' }) :
    wpAny (model prog w) (ktrTop dp un gd cn cs L a ccd cl outer) (call (.ref f) vs) Q E s :=
  sp_use H B F X (news_sub N ho) T hck hdp hun fun v h' tk' F' k p => hret v h' tk' p F' (fun own' G q hq => (List.mem_append.mp hq).elim (news_gives F (news_sub N ho) G q) (Kept.led k (news_sub N hr) hd q))
    fun x p hp e1 e2 => by
      have := (N p (hr p hp)).1
      rw [← e2, e1] at this; cases this
end
section
variable {prog : Program} {w : World} {A : Around} {E Q : Value → Shared → Prop} {s : Shared} {x y : Str} {t u : Tok} {b : Bool}
theorem eq_str_b (hb : (x == y) = b) (h : Q (.bool b) s) : wpAny (model prog w) A (compareOp .Eq (.str x t) (.str y u)) Q E s := by
  refine eq_str ?_
  rw [hb]; exact h
theorem ne_str_b (hb : (x == y) = b) (h : Q (.bool (!b)) s) : wpAny (model prog w) A (compareOp .NotEq (.str x t) (.str y u)) Q E s := by
  refine ne_str ?_
  show Q (.bool (!(x == y))) s
  rw [hb]; exact h
end
theorem end_gives {own own' news' : List (Addr × Obj)} {h g h' : Heap} {L' : Addr} (hKg : Kept (own.map (·.1)) h g) (N' : News g L' h' news') (hs : ∀ p ∈ own', p ∈ news') : Gives own own' h h' := by
  intro p hp
  refine ⟨(N' p (hs p hp)).1, ?_⟩
  by_cases q : p.1 ∈ own.map (·.1)
  · exact .inl q
  · right
    cases e : h.get? p.1 with
    | none => rfl
    | some o =>
      have := hKg _ _ q e
      rw [(N' p (hs p hp)).2.2] at this; cases this
/-- what of the ledger lies off as -/
inductive Cut (as : List Addr) : List (Addr × Obj) → List (Addr × Obj) → Prop where
  | nil : Cut as [] []
  | drop {p news rest} : Cut as news rest → Cut as (p :: news) rest
  | keep {p news rest} : p.1 ∉ as → Cut as news rest → Cut as (p :: news) (p :: rest)
theorem Cut.dropIn {as : List Addr} {p : Addr × Obj} {news rest : List (Addr × Obj)} (_ : p.1 ∈ as) (h : Cut as news rest) : Cut as (p :: news) rest := .drop h
theorem Cut.sub {as : List Addr} {news rest : List (Addr × Obj)} (h : Cut as news rest) : ∀ p ∈ rest, p ∈ news ∧ p.1 ∉ as := by
  induction h with
  | nil => intro p hp; cases hp
  | drop _ ih => exact fun p hp => ⟨.tail _ (ih p hp).1, (ih p hp).2⟩
  | keep hn _ ih =>
    intro p hp
    rcases List.mem_cons.mp hp with rfl | hp
    · exact ⟨.head _, hn⟩
    · exact ⟨.tail _ (ih p hp).1, (ih p hp).2⟩
theorem off_nil {b : Addr} : b ∉ ([] : List Addr) := fun h => nomatch h
theorem off_cons {b a : Addr} {as : List Addr} (h : b ≠ a) (h' : b ∉ as) : b ∉ a :: as := fun q => by
  rcases List.mem_cons.mp q with q | q
  · exact h q
  · exact h' q
section
variable {prog : Program} {w : World} {mean : ExcName → Option Value} {mg mb : Str → Option Value} {f : Addr} {need : Nat} {vs : List Value} {own : List (Addr × Obj)} {Post : Heap → Heap → Value → Prop}
  {dp un : Nat} {gd : Option (List Code)} {cn : Str} {cs : Scope} {a : Addr} {ccd : Value} {cl : List (Str × Addr)} {outer : List Env}
  {A₀ : Around} {base h₀ : Heap} {L : Addr} {m : Str → Option Value} {s : Shared} {Q E : Value → Shared → Prop}
theorem sp_cut {news rest : List (Addr × Obj)} (H : Sp prog w mean mg mb f need vs own Post) (B : Below A₀ base outer h₀) (F : Fr h₀ L s.heap m) (X : (hd.heap_1 w.params).In h₀) (N : News h₀ L s.heap news) (T : Top top (looseW top [Str.ofString "Names"]) mean mg mb h₀) (hck : cs.kind = .function)
    (ho : ∀ p ∈ own, p ∈ news) (hr : Cut (own.map (·.1)) news rest) (hdp : dp + need < recursionLimit) (hun : un + 8 * need < cLine)
    (hret : ∀ v h' tk', Post s.heap h' v → Fr h₀ L h' m → (∀ own', Gives own own' s.heap h' → News h₀ L h' (own' ++ rest)) → Q v { s with heap := h', toks := tk' }) :
    wpAny (model prog w) (ktrTop dp un gd cn cs L a ccd cl outer) (call (.ref f) vs) Q E s :=
  sp_led H B F X N T hck ho (fun p hp => (hr.sub p hp).1) (fun p hp => (hr.sub p hp).2) hdp hun fun v h' tk' P F' G _ => hret v h' tk' P F' G
end
theorem room_0 {d n R : Nat} (h : d + n < R) : d < R := Nat.lt_of_le_of_lt (Nat.le_add_right d n) h
theorem room_le {d k n R : Nat} (h : d + n < R) (hk : Nat.ble k n = true) : d + k < R := Nat.lt_of_le_of_lt (Nat.add_le_add_left (Nat.le_of_ble_eq_true hk) d) h
theorem exTok {V : Tok → Value} {K : Value → Prop} (H : ∀ t, K (V t)) : ∀ v, (∃ t, v = V t) → K v := fun _ ⟨t, e⟩ => e ▸ H t
theorem eqVal {x : Value} {K : Value → Prop} (H : K x) : ∀ v, v = x → K v := fun _ e => e ▸ H
theorem under_top {dp un : Nat} {gd : Option (List Code)} {cn : Str} {cs : Scope} {L a : Addr} {ccd : Value} {cl : List (Str × Addr)} {outer : List Env} {C : Addr} {vs : List Value} {kw : List (Str × Value)} :
    (ktrTop dp un gd cn cs L a ccd cl outer).under (.builtin "type.__call__" ⟨.ref C :: vs, kw⟩) = ktrTop (dp + 1) (un + 1) ((ktrTop dp un gd cn cs L a ccd cl outer).under (.builtin "type.__call__" ⟨.ref C :: vs, kw⟩)).guards cn cs L a ccd cl outer := rfl
section
variable {prog : Program} {w : World} {mean : ExcName → Option Value} {mg mb : Str → Option Value} {f C : Addr} {need : Nat} {vs : List Value} {own : List (Addr × Obj)} {Post : Heap → Heap → Value → Prop}
  {name qual : Str} {params : Arguments} {body : List Stmt} {scope : Scope} {dV kV doc pm cdv ct oc : Value} {an od : Option Addr} {osl : Array (Option Value)}
/-- a function's contract, from a walk through its body -/
theorem sp_body {binds : List (Str × Value)} (ho : ∀ w : World, (hd.heap_1 w.params).lookup f = some ⟨oc, od, .func (fnOf name qual params body scope dV kV doc pm an cdv ct), osl⟩) (hcd : ∀ w : World, codeIn (hd.heap_1 w.params) cdv qual = true)
    (hbind : ∀ s : Shared, (hd.heap_1 w.params).In s.heap → BindsTo s (fnOf name qual params body scope dV kV doc pm an cdv ct) ⟨vs, []⟩ binds) (hloc : ∀ y ∈ binds, scope.names.lookup y.1 = some .local)
    (hco : scope.isCoroutine = false) (hgen : scope.isGenerator = false) (hk : scope.kind = .function) (hcell : ∀ x ∈ scope.names, x.2 ≠ .cell)
    (H : ∀ (dp un : Nat) (gd : Option (List Code)) (outer : List Env) (A₀ : Around) (base h g h₁ : Heap) (L : Addr) (gens : Array GenState) (drawn : Drawn) (toks : Nat) (os : OsState) (Q : Flow → Shared → Prop),
      Kept (own.map (·.1)) h g → (∀ p ∈ own, h.get? p.1 = some p.2) → Fr g L h₁ (fun y => binds.reverse.lookup y) → News g L h₁ own → Below A₀ base outer g → (hd.heap_1 w.params).In g → Top top (looseW top [Str.ofString "Names"]) mean mg mb g → (∀ p ∈ own, p.1 < L) → h.objs.size ≤ L →
      dp + need < recursionLimit → un + (8 * need + 5) < cLine → (∀ v h' tk', Kept (own.map (·.1)) h h' → Post h h' v → Q (.ret v) ⟨h', gens, drawn, tk', os⟩) → (∀ h' tk', Kept (own.map (·.1)) h h' → Post h h' .none → Q .next ⟨h', gens, drawn, tk', os⟩) →
      wpAny (model prog w) (ktrTop dp un gd qual scope L f cdv [] outer) (execs body (envOf qual scope L f cdv)) Q (fun _ _ => False) ⟨h₁, gens, drawn, toks, os⟩) :
    Sp prog w mean mg mb f (need + 1) vs own Post := by
  intro dp un gd cn cs a ccd cl outer A₀ base h₀ L m s Q E B F X N T hck hdp hun hret
  refine wpAny_call (enter_own B F X N T rfl rfl hck (ho w) (hcd w) (by show dp < _; omega) (hbind s (X.keeps F.keep)) hloc (fun g L' h₁ hK hg F' N' B' X' T' hO hsL => ?_) hco hgen hk hcell)
  refine wpAny_mono (E := fun _ _ => False) ?_ (fun _ _ q => q) (fun _ _ q => False.elim q)
  exact H (dp + 1) (un + 3) gd (envX cn cs L a ccd cl :: outer) _ base s.heap g h₁ L' s.gens s.drawn (s.toks + binds.length) s.os _ hK (fun p hp => (N p hp).1) F' N' B' X' T' hO hsL (by omega) (by omega) (fun v h' tk' k p => hret v h' tk' k p) (fun h' tk' k p => hret _ h' tk' k p)
/-- a class's contract, from a walk through its __init__ -/
theorem sp_class {binds : Addr → List (Str × Value)} (hm : ∀ w : World, makesIn (hd.heap_1 w.params) C = true) (hi : ∀ w : World, findIn (hd.heap_1 w.params) (.ref C) "__init__" = some (some (.ref f))) (hf : ∀ w : World, typeIn (hd.heap_1 w.params) (.ref f) = some (.type "function"))
    (ho : ∀ w : World, (hd.heap_1 w.params).lookup f = some ⟨oc, od, .func (fnOf name qual params body scope dV kV doc pm an cdv ct), osl⟩) (hcd : ∀ w : World, codeIn (hd.heap_1 w.params) cdv qual = true)
    (hbind : ∀ (x : Addr) (s : Shared), (hd.heap_1 w.params).In s.heap → BindsTo s (fnOf name qual params body scope dV kV doc pm an cdv ct) ⟨.ref x :: vs, []⟩ (binds x)) (hloc : ∀ x, ∀ y ∈ binds x, scope.names.lookup y.1 = some .local)
    (hco : scope.isCoroutine = false) (hgen : scope.isGenerator = false) (hk : scope.kind = .function) (hcell : ∀ x ∈ scope.names, x.2 ≠ .cell)
    (H : ∀ (dp un : Nat) (gd : Option (List Code)) (outer : List Env) (A₀ : Around) (base h g h₁ : Heap) (L x dx : Addr) (gens : Array GenState) (drawn : Drawn) (toks : Nat) (os : OsState) (Q : Flow → Shared → Prop),
      Kept (own.map (·.1)) h g → (∀ p ∈ own, h.get? p.1 = some p.2) → h.objs.size ≤ dx → dx < x → (∀ p ∈ own, p.1 < dx) → Fr g L h₁ (fun y => (binds x).reverse.lookup y) → News g L h₁ ((x, instObj C dx) :: (dx, emptyDict) :: own) → Below A₀ base outer g → (hd.heap_1 w.params).In g → Top top (looseW top [Str.ofString "Names"]) mean mg mb g → (∀ p ∈ (x, instObj C dx) :: (dx, emptyDict) :: own, p.1 < L) →
      dp + need < recursionLimit → un + (8 * need + 5) < cLine → (∀ h' tk', Kept (own.map (·.1)) h h' → Post h h' (.ref x) → Q .next ⟨h', gens, drawn, tk', os⟩) →
      wpAny (model prog w) (ktrTop dp un gd qual scope L f cdv [] outer) (execs body (envOf qual scope L f cdv)) Q (fun _ _ => False) ⟨h₁, gens, drawn, toks, os⟩) :
    Sp prog w mean mg mb C (need + 2) vs own Post := by
  intro dp un gd cn cs a ccd cl outer A₀ base h₀ L m s Q E B F X N T hck hdp hun hret
  refine wpAny_call (make_own F N (X.keeps F.keep) (hm w) (hi w) (hf w) fun x dx hh hst hx hdx F1 N1 hlt hlt2 hsz => ?_)
  rw [under_top]
  refine enter_own (s := { s with heap := hh }) B F1 X N1 T rfl rfl hck (ho w) (hcd w) (by show dp + 1 < _; omega) (hbind x _ (X.keeps F1.keep)) (hloc x) (fun g L' h₁ hK hg F' N' B' X' T' hO _ => ?_) hco hgen hk hcell
  refine wpAny_mono (E := fun _ _ => False) ?_ (fun _ _ q => q) (fun _ _ q => False.elim q)
  exact H (dp + 2) (un + 4) _ (envX cn cs L a ccd cl :: outer) _ base s.heap g h₁ L' x dx s.gens s.drawn (s.toks + (binds x).length) s.os _ (kept_new hK hst hx hdx) (fun p hp => (N p hp).1) hsz hlt2 hlt F' N' B' X' T' hO (by omega) (by omega) (fun h' tk' k p => ⟨rfl, hret _ h' tk' k p⟩)
end
def Sub (own news : List (Addr × Obj)) : Prop := ∀ p ∈ own, p ∈ news
theorem sub_of {own news : List (Addr × Obj)} (h : ∀ p ∈ own, p ∈ news) : Sub own news := h
theorem isCut {as : List Addr} {news rest : List (Addr × Obj)} (h : Cut as news rest) : Cut as news rest := h
section
variable {prog : Program} {w : World} {mean : ExcName → Option Value} {mg mb : Str → Option Value} {f : Addr} {need : Nat} {vs : List Value} {own : List (Addr × Obj)} {Post : Heap → Heap → Value → Prop}
  {dp un : Nat} {gd : Option (List Code)} {cn : Str} {cs : Scope} {a : Addr} {ccd : Value} {cl : List (Str × Addr)} {outer : List Env}
  {A₀ : Around} {base h₀ : Heap} {L : Addr} {m : Str → Option Value} {s : Shared} {Q E : Value → Shared → Prop}
theorem u_pure {news : List (Addr × Obj)} {R : Tok → Value} (B : Below A₀ base outer h₀) (F : Fr h₀ L s.heap m) (X : (hd.heap_1 w.params).In h₀) (N : News h₀ L s.heap news) (T : Top top (looseW top [Str.ofString "Names"]) mean mg mb h₀) (hck : cs.kind = .function)
    (H : SpV prog w mean mg mb f need vs R) (hdp : dp + need < recursionLimit) (hun : un + 8 * need < cLine) (hret : ∀ t h' tk', Fr h₀ L h' m → News h₀ L h' news → Q (R t) { s with heap := h', toks := tk' }) :
    wpAny (model prog w) (ktrTop dp un gd cn cs L a ccd cl outer) (call (.ref f) vs) Q E s := sp_pure H B F X N T hck hdp hun hret
theorem u_read {news : List (Addr × Obj)} {R : Value → Prop} (B : Below A₀ base outer h₀) (F : Fr h₀ L s.heap m) (X : (hd.heap_1 w.params).In h₀) (N : News h₀ L s.heap news) (T : Top top (looseW top [Str.ofString "Names"]) mean mg mb h₀) (hck : cs.kind = .function)
    (ho : Sub own news) (H : SpR prog w mean mg mb f need vs own R) (hdp : dp + need < recursionLimit) (hun : un + 8 * need < cLine) (hret : ∀ h' tk' v, R v → Fr h₀ L h' m → News h₀ L h' news → Q v { s with heap := h', toks := tk' }) :
    wpAny (model prog w) (ktrTop dp un gd cn cs L a ccd cl outer) (call (.ref f) vs) Q E s := sp_read H B F X N T hck ho hdp hun fun v h' tk' => hret h' tk' v
theorem u_cut {news rest : List (Addr × Obj)} (B : Below A₀ base outer h₀) (F : Fr h₀ L s.heap m) (X : (hd.heap_1 w.params).In h₀) (N : News h₀ L s.heap news) (T : Top top (looseW top [Str.ofString "Names"]) mean mg mb h₀) (hck : cs.kind = .function)
    (ho : Sub own news) (H : Sp prog w mean mg mb f need vs own Post) (hr : Cut (own.map (·.1)) news rest) (hdp : dp + need < recursionLimit) (hun : un + 8 * need < cLine)
    (hret : ∀ h' tk' v, Post s.heap h' v → Fr h₀ L h' m → (∀ own', Gives own own' s.heap h' → News h₀ L h' (own' ++ rest)) → Q v { s with heap := h', toks := tk' }) :
    wpAny (model prog w) (ktrTop dp un gd cn cs L a ccd cl outer) (call (.ref f) vs) Q E s := sp_cut H B F X N T hck ho hr hdp hun fun v h' tk' => hret h' tk' v
end
theorem isP {P : Prop} (h : P) : P := h
theorem isBel {A : Around} {b h : Heap} {o : List Env} (q : Below A b o h) : Below A b o h := q
theorem isFr {h g : Heap} {L : Addr} {m : Str → Option Value} (q : Fr h L g m) : Fr h L g m := q
theorem isIn {K : Frag} {h : Heap} (q : K.In h) : K.In h := q
theorem isNew {h g : Heap} {L : Addr} {l : List (Addr × Obj)} (q : News h L g l) : News h L g l := q
theorem isTop {p : Program} {l : List Str} {mean : ExcName → Option Value} {mg mb : Str → Option Value} {h : Heap} (q : Top p l mean mg mb h) : Top p l mean mg mb h := q
theorem isKind {c : Scope} (h : c.kind = .function) : c.kind = .function := h
theorem isN {a b : Nat} (h : @Ne Nat a b) : @Ne Nat a b := h
theorem isE {α : Type} {a b : α} (h : a = b) : a = b := h
def Off (x : Nat) (l : List (Addr × Obj)) : Prop := ∀ p ∈ l, @Ne Nat x p.1
section
variable {prog : Program} {w : World} {mean : ExcName → Option Value} {mg mb : Str → Option Value} {f l : Addr} {need : Nat} {vs items : List Value} {own : List (Addr × Obj)} {Post : Heap → Heap → Value → Prop}
  {dp un : Nat} {gd : Option (List Code)} {cn : Str} {cs : Scope} {a : Addr} {ccd : Value} {cl : List (Str × Addr)} {outer : List Env}
  {A₀ : Around} {base h₀ : Heap} {L : Addr} {m : Str → Option Value} {s : Shared} {Q E : Value → Shared → Prop}
/-- as u_cut; what is new lies off the rest -/
theorem u_cutO {news rest : List (Addr × Obj)} (B : Below A₀ base outer h₀) (F : Fr h₀ L s.heap m) (X : (hd.heap_1 w.params).In h₀) (N : News h₀ L s.heap news) (T : Top top (looseW top [Str.ofString "Names"]) mean mg mb h₀) (hck : cs.kind = .function)
    (ho : Sub own news) (H : Sp prog w mean mg mb f need vs own Post) (hr : Cut (own.map (·.1)) news rest) (hdp : dp + need < recursionLimit) (hun : un + 8 * need < cLine)
    (hret : ∀ h' tk' v, Post s.heap h' v → Fr h₀ L h' m → (∀ own', Gives own own' s.heap h' → News h₀ L h' (own' ++ rest) ∧ ∀ p ∈ own', p.1 ∉ own.map (·.1) → Off p.1 rest) → Q v { s with heap := h', toks := tk' }) :
    wpAny (model prog w) (ktrTop dp un gd cn cs L a ccd cl outer) (call (.ref f) vs) Q E s :=
  sp_led H B F X N T hck ho (fun p hp => (hr.sub p hp).1) (fun p hp => (hr.sub p hp).2) hdp hun fun v h' tk' P F' G D => hret h' tk' v P F' fun own' g => ⟨G own' g, fun p hp hn q hq => by
    rcases (g p hp).2 with h1 | h1
    · exact absurd h1 hn
    · exact D p.1 q hq h1⟩
/-- a call that owns nothing and makes new things -/
theorem u_new {news : List (Addr × Obj)} (B : Below A₀ base outer h₀) (F : Fr h₀ L s.heap m) (X : (hd.heap_1 w.params).In h₀) (N : News h₀ L s.heap news) (T : Top top (looseW top [Str.ofString "Names"]) mean mg mb h₀) (hck : cs.kind = .function)
    (H : Sp prog w mean mg mb f need vs [] Post) (hdp : dp + need < recursionLimit) (hun : un + 8 * need < cLine)
    (hret : ∀ h' tk' v, Post s.heap h' v → Fr h₀ L h' m → (∀ own', Gives [] own' s.heap h' → News h₀ L h' (own' ++ news) ∧ ∀ p ∈ own', Off p.1 news) → Q v { s with heap := h', toks := tk' }) :
    wpAny (model prog w) (ktrTop dp un gd cn cs L a ccd cl outer) (call (.ref f) vs) Q E s :=
  sp_led H B F X N T hck (fun p hp => nomatch hp) (fun p hp => hp) (fun p hp q => nomatch q) hdp hun fun v h' tk' P F' G D => hret h' tk' v P F' fun own' g => ⟨G own' g, fun p hp q hq => by
    rcases (g p hp).2 with h1 | h1
    · cases h1
    · exact D p.1 q hq h1⟩
/-- as u_new; what is new lies behind all that is at hand -/
theorem u_newS {news : List (Addr × Obj)} (B : Below A₀ base outer h₀) (F : Fr h₀ L s.heap m) (X : (hd.heap_1 w.params).In h₀) (N : News h₀ L s.heap news) (T : Top top (looseW top [Str.ofString "Names"]) mean mg mb h₀) (hck : cs.kind = .function)
    (H : Sp prog w mean mg mb f need vs [] Post) (hdp : dp + need < recursionLimit) (hun : un + 8 * need < cLine)
    (hret : ∀ h' tk' v, Post s.heap h' v → Fr h₀ L h' m → (∀ own', Gives [] own' s.heap h' → News h₀ L h' (own' ++ news)) → (∀ d, s.heap.objs.size ≤ d → L < d ∧ ∀ p ∈ news, p.1 < d) → Q v { s with heap := h', toks := tk' }) :
    wpAny (model prog w) (ktrTop dp un gd cn cs L a ccd cl outer) (call (.ref f) vs) Q E s :=
  sp_led H B F X N T hck (fun p hp => nomatch hp) (fun p hp => hp) (fun p hp q => nomatch q) hdp hun fun v h' tk' P F' G _ => hret h' tk' v P F' G fun d hd => by
    obtain ⟨oL, es, ep, hL, _⟩ := F.ns
    exact ⟨Nat.lt_of_lt_of_le (Heap.lt_size hL) hd, fun p hp => Nat.lt_of_lt_of_le (Heap.lt_size (N p hp).1) hd⟩
end
end Mine
open Mine
example : (fun (_ : OpenLaw) (_ : Params → Frag) => True) PySem.Challenge.rw_nu0342_01 hd.heap_1 := by k_fill; trivial
local macro_rules | `(tactic| walk_at "M units") => `(tactic| first | exact Mine.room_le (by with_reducible assumption) (by exact rfl) | ((have hcL9 := cLine_is); (try dsimp only [ktrTop]); (try simp only [units_under_make, units_in1, units_deeper, Around.mark_units, units_caller]); omega))
local macro_rules | `(tactic| k_room) => `(tactic| first | exact Mine.room_0 (by with_reducible assumption) | exact Mine.room_le (by with_reducible assumption) (by exact rfl) | ((try simp only [depth_under_make, depth_under_kw, depth_in1, depth_deeper, depth_caller]); (try dsimp only [ktrTop]); omega))
local macro_rules | `(tactic| walk_at "call ref") => `(tactic| (k_here; k_dflt (k_extra "M call")))
local macro_rules | `(tactic| walk_at "M b") => `(tactic| ((any_goals first | (apply Mine.isBel; k_asm) | (apply Mine.isFr; k_asm) | (apply Mine.isIn; k_asm) | (apply Mine.isNew; k_asm) | (apply Mine.isTop; k_asm)); (all_goals try (apply Mine.isKind; first | exact rfl | assumption))))
local macro_rules | `(tactic| walk_at "M d") => `(tactic| (k_room; walk_at "M units"))
local macro_rules | `(tactic| walk_at "M z") => `(tactic| ((try dsimp only); (try k_sweep); (try k_fold)))
local macro_rules | `(tactic| walk_at "M v") => `(tactic| first | (refine Mine.exTok ?_; intro t9 F9 N9) | (refine Mine.eqVal ?_; intro F9 N9))
local macro_rules | `(tactic| walk_at "M a") => `(tactic| all_goals try (apply Mine.isP; with_reducible assumption))
local macro_rules | `(tactic| walk_at "M e") => `(tactic| all_goals try (apply Mine.isE; exact rfl))
local macro_rules | `(tactic| walk_at "M o") => `(tactic| all_goals try (apply Mine.sub_of; walk_at "M in"))
local macro_rules | `(tactic| walk_at "M k") => `(tactic| all_goals try (apply Mine.isCut; walk_at "M cut"))
local macro_rules | `(tactic| walk_at "M l") => `(tactic| first | with_reducible assumption | walk_at "M len")
local macro_rules | `(tactic| walk_at "M len") => `(tactic| first | omega | ((try simp only [Str.length_append, len_mk1]); (have hM1 := lits); omega))
-- a text cut by two ints
local macro_rules | `(tactic| walk_at "subscriptTail") => `(tactic| (k_here; (with_reducible show wpAny _ _ (subscriptTail _ (Expr.Slice (some _) (some _) none _) (Value.str _ _) (Value.ref _)) _ _ _); ((with_reducible rename Fr _ _ _ _ => F'); (with_reducible rename News _ _ _ _ => N'); (refine slice_strN_ss (hsz := ?hsz) (s := ⟨_, _, _, _, _⟩) F' N' ?_); (case hsz => walk_at "M len")); intro _ _ _ _ _))
-- texts joined
local macro_rules | `(tactic| walk_at "binaryOp Add str str") => `(tactic| (k_here; (refine SBL.add (hsz := ?hsz) ?_); (case hsz => walk_at "M len"); intro _ _ _))
-- a sign of a text
local macro_rules | `(tactic| walk_at "subscriptTail") => `(tactic| (k_here; (with_reducible show wpAny _ _ (subscriptTail _ _ (Value.str _ _) (Value.int _ _)) _ _ _); (refine item_str (fits_of ?h1 ?h2) ?h3 ?h4 ?_); (case h1 => walk_at "M len"); (case h2 => walk_at "M len"); (case h3 => walk_at "M len"); (case h4 => walk_at "M len"); intro _))
local macro_rules | `(tactic| walk_at "call builtin:len") => `(tactic| (k_here; (with_reducible show wpAny _ _ (call (Value.builtin "len") [Value.str _ _]) _ _ _); (refine SBL.len ?h1 ?_); (case h1 => walk_at "M len")))
local macro_rules | `(tactic| walk_at "call type:str") => `(tactic| (k_here; (with_reducible show wpAny _ _ (call (Value.type "str") [Value.int _ _]) _ _ _); (refine P.str_of_int (shown (N := 2 ^ 1920) ?h1 ?h2 (Int.le_refl _)) ?_); (case h1 => walk_at "M len"); (case h2 => walk_at "M len")))
local macro_rules | `(tactic| walk_at "call builtin:ord") => `(tactic| (k_here; (refine ord_of_one ?h1 ?_); (case h1 => walk_at "M len")))
local macro_rules | `(tactic| walk_at "binaryOp Mult int int") => `(tactic| (k_here; (refine mul_int ?_ (mulOk_r ?h1)); (case h1 => walk_at "M len")))
-- a pure call
local macro_rules | `(tactic| kst_facts1) => `(tactic| first | exact PyProof.Rows.StrsAre.nil | exact strs_snoc (by assumption))
local macro_rules | `(tactic| ksw_same) => `(tactic| (intro z h2 h3; (simp only [List.forall_mem_cons, List.not_mem_nil, false_implies, implies_true, and_true, ne_eq] at h2); (simp only [List.contains_cons, List.contains_nil, Bool.or_false, Bool.or_eq_false_iff, beq_eq_false_iff_ne, ne_eq] at h3); (simp [PyProof.Rows.bindM, h2, h3]; done)))
local macro_rules | `(tactic| walk_at "M in") => `(tactic| k_dflt k_allIn)
local macro_rules | `(tactic| walk_at "compareOp Eq str str") => `(tactic| (k_here; (refine' eq_str_b ?h1 ?_); (case h1 => first | with_reducible assumption | decide | k_dflt assumption)))
local macro_rules | `(tactic| walk_at "compareOp NotEq str str") => `(tactic| (k_here; (refine' ne_str_b ?h1 ?_); (case h1 => first | with_reducible assumption | decide | k_dflt assumption)))
local macro_rules | `(tactic| k_caughtNB) => `(tactic| first | exact off_nil | (refine off_cons ?a ?b; (case a => k_ne); (case b => k_caughtNB)))
local macro_rules | `(tactic| k_caughtB) => `(tactic| first | exact Cut.nil | (refine' Cut.dropIn ?a ?b; (case a => k_dflt k_mem); (case b => k_caughtB)) | (refine' Cut.keep ?a ?b; (case a => k_caughtNB); (case b => k_caughtB)))
local macro_rules | `(tactic| walk_at "M cut") => `(tactic| ((try dsimp only [List.map_cons, List.map_nil]); k_dflt k_caughtB))
local macro_rules | `(tactic| walk_at "exec While") => `(tactic| k_extra "M while")
local macro_rules | `(tactic| walk_at "call builtin:str.join") => `(tactic| (k_here; (with_reducible show wpAny _ _ (call (Value.builtin _) [Value.str _ _, Value.ref _]) _ _ _); k_dflt (refine' join_listW ?k1 ?k2 (by decide) ?k4 ?_; (case k1 => exact News.isList (by k_asm) (by k_mem)); (case k2 => (simp only [List.toList_toArray]; assumption)); (case k4 => omega)); intro _ _))
local macro_rules | `(tactic| walk_at "exec While Compare") => `(tactic| k_extra "M while")
local macro_rules | `(tactic| walk_at "exec While Compare cons nil") => `(tactic| k_extra "M while")
local macro_rules | `(tactic| walk_at "exec While Compare cons") => `(tactic| k_extra "M while")
local macro_rules | `(tactic| walk_at "exec While BoolOp") => `(tactic| k_extra "M while")
local macro_rules | `(tactic| walk_at "exec While Call") => `(tactic| k_extra "M while")
local macro_rules | `(tactic| k_handed) => `(tactic| with_reducible assumption)
local macro_rules | `(tactic| walk_at "pyIter ref") => `(tactic| k_extra "M iter")
local macro_rules | `(tactic| k_qdec) => `(tactic| kernel_rfl)
namespace Mine
def isDig (c : Str) : Bool := !decide (c.cps.toList < (Str.ofString "0").cps.toList) && !decide ((Str.ofString "9").cps.toList < c.cps.toList)
def isUp (c : Str) : Bool := !decide (c.cps.toList < (Str.ofString "A").cps.toList) && !decide ((Str.ofString "F").cps.toList < c.cps.toList)
def isHex (c : Str) : Bool := isDig c || isUp c
def isLet (c : Str) : Bool := (!decide (c.cps.toList < (Str.ofString "a").cps.toList) && !decide ((Str.ofString "z").cps.toList < c.cps.toList)) || (!decide (c.cps.toList < (Str.ofString "A").cps.toList) && !decide ((Str.ofString "Z").cps.toList < c.cps.toList))

theorem is_digit_sp (prog : Program) (w : World) (mean : ExcName → Option Value) (mg mb : Str → Option Value) (c : Str) (t : Tok) : SpV prog w mean mg mb 168 1 [.str c t] (fun _ => .bool (isDig c)) := by
  k_dflt (refine sp_body (binds := [(Str.ofString "char", .str c t)]) (fun _ => by k_is) (fun _ => by k_is) (by first | exact fun _ _ => BindsTo.of_eq rfl | exact fun _ X9 => binds_K X9 rfl (by k_is) rfl rfl rfl) (by exact locs rfl) (by exact rfl) (by exact rfl) (by exact rfl) (by decide) ?_)
  intro dp un gd outer A₀ base h₀ g h1 L' gens drawn toks os Q hKg hO F' N' B' X' T' hOwn hsL hdp hun hret hretN
  (try dsimp only); (try with_reducible show wpAny _ _ _ _ _ _)
  k_with_none
  (repeat' (first | (k_unfold; (try dsimp only)) | (k_end; wrow_close) | (walk1; (try dsimp only)) | (dsimp only; walk1) | (leave1; (try dsimp only)) | fail "no step"))
  all_goals exact hret _ _ _ (end_kept hKg (by assumption)) ⟨0, by simp only [*, isDig, not_true, not_false_eq_true, decide_true, decide_false, Bool.not_true, Bool.not_false, Bool.and_true, Bool.true_and, Bool.and_false, Bool.false_and, Bool.or_true, Bool.true_or, Bool.or_false, Bool.false_or]⟩
theorem is_hex_digit_sp (prog : Program) (w : World) (mean : ExcName → Option Value) (mg mb : Str → Option Value) (c : Str) (t : Tok) : SpV prog w mean mg mb 175 2 [.str c t] (fun _ => .bool (isHex c)) := by
  k_dflt (refine sp_body (binds := [(Str.ofString "char", .str c t)]) (fun _ => by k_is) (fun _ => by k_is) (by first | exact fun _ _ => BindsTo.of_eq rfl | exact fun _ X9 => binds_K X9 rfl (by k_is) rfl rfl rfl) (by exact locs rfl) (by exact rfl) (by exact rfl) (by exact rfl) (by decide) ?_)
  intro dp un gd outer A₀ base h₀ g h1 L' gens drawn toks os Q hKg hO F' N' B' X' T' hOwn hsL hdp hun hret hretN
  (try dsimp only); (try with_reducible show wpAny _ _ _ _ _ _)
  k_with_none
  k_with "M call" => (refine' Mine.u_pure ?_ ?_ ?_ ?_ ?_ ?_ (Mine.is_digit_sp _ _ _ _ _ _ _) ?_ ?_ ?_; walk_at "M b"; walk_at "M d"; intro t9 h9 tk9 F9 N9; walk_at "M z")
  (repeat' (first | (k_unfold; (try dsimp only)) | (k_end; wrow_close) | (walk1; (try dsimp only)) | (dsimp only; walk1) | (leave1; (try dsimp only)) | fail "no step"))
  all_goals exact hret _ _ _ (end_kept hKg (by assumption)) ⟨0, by simp only [*, isHex, isUp, not_true, not_false_eq_true, decide_true, decide_false, Bool.not_true, Bool.not_false, Bool.and_true, Bool.true_and, Bool.and_false, Bool.false_and, Bool.or_true, Bool.true_or, Bool.or_false, Bool.false_or]⟩
theorem is_letter_sp (prog : Program) (w : World) (mean : ExcName → Option Value) (mg mb : Str → Option Value) (c : Str) (t : Tok) : SpV prog w mean mg mb 161 1 [.str c t] (fun _ => .bool (isLet c)) := by
  k_dflt (refine sp_body (binds := [(Str.ofString "char", .str c t)]) (fun _ => by k_is) (fun _ => by k_is) (by first | exact fun _ _ => BindsTo.of_eq rfl | exact fun _ X9 => binds_K X9 rfl (by k_is) rfl rfl rfl) (by exact locs rfl) (by exact rfl) (by exact rfl) (by exact rfl) (by decide) ?_)
  intro dp un gd outer A₀ base h₀ g h1 L' gens drawn toks os Q hKg hO F' N' B' X' T' hOwn hsL hdp hun hret hretN
  (try dsimp only); (try with_reducible show wpAny _ _ _ _ _ _)
  k_with_none
  (repeat' (first | (k_unfold; (try dsimp only)) | (k_end; wrow_close) | (walk1; (try dsimp only)) | (dsimp only; walk1) | (leave1; (try dsimp only)) | fail "no step"))
  all_goals exact hret _ _ _ (end_kept hKg (by assumption)) ⟨0, by simp only [*, isLet, not_true, not_false_eq_true, decide_true, decide_false, Bool.not_true, Bool.not_false, Bool.and_true, Bool.true_and, Bool.and_false, Bool.false_and, Bool.or_true, Bool.true_or, Bool.or_false, Bool.false_or]⟩
end Mine
namespace Mine
def isPr (c : Str) : Bool := !decide (c.cps.toList < (Str.ofString " ").cps.toList) && (c != Str.ofString "\"" && c != Str.ofString "\x7f")
theorem is_printable_sp (prog : Program) (w : World) (mean : ExcName → Option Value) (mg mb : Str → Option Value) (c : Str) (t : Tok) : SpV prog w mean mg mb 42 1 [.str c t] (fun _ => .bool (isPr c)) := by
  k_dflt (refine sp_body (binds := [(Str.ofString "char", .str c t)]) (fun _ => by k_is) (fun _ => by k_is) (by first | exact fun _ _ => BindsTo.of_eq rfl | exact fun _ X9 => binds_K X9 rfl (by k_is) rfl rfl rfl) (by exact locs rfl) (by exact rfl) (by exact rfl) (by exact rfl) (by decide) ?_)
  intro dp un gd outer A₀ base h₀ g h1 L' gens drawn toks os Q hKg hO F' N' B' X' T' hOwn hsL hdp hun hret hretN
  (try dsimp only); (try with_reducible show wpAny _ _ _ _ _ _)
  k_with_none
  (repeat' (first | (k_unfold; (try dsimp only)) | (k_end; wrow_close) | (walk1; (try dsimp only)) | (dsimp only; walk1) | (leave1; (try dsimp only)) | fail "no step"))
  all_goals exact hret _ _ _ (end_kept hKg (by assumption)) ⟨0, by (simp only [*, isPr, not_true, not_false_eq_true, decide_true, decide_false, Bool.not_true, Bool.not_false, Bool.and_true, Bool.true_and, Bool.and_false, Bool.false_and]; try rfl)⟩
def dv (b : Int) (l : List Int) : Int := l.foldl (fun a n => a * b + Txt.find (Str.ofString "0123456789ABCDEF") ⟨#[n.toNat]⟩) 0
theorem dv_step {b v : Int} {pre : List Int} {n : Nat} (h : v = dv b pre) : v * b + Txt.find (Str.ofString "0123456789ABCDEF") ⟨#[n]⟩ = dv b (pre ++ [(n : Int)]) := by
  subst h
  unfold dv
  rw [List.foldl_append]
  rfl
theorem digits_value_sp (prog : Program) (w : World) (mean : ExcName → Option Value) (mg mb : Str → Option Value) (c : Str) (t : Tok) (b mx : Int) (tb tm : Tok) (hb : b.natAbs < 18446744073709551616) (hm : ∀ pre post, KStt.codes c = pre ++ post → dv b pre ≤ mx) : SpV prog w mean mg mb 182 1 [.str c t, .int b tb, .int mx tm] (fun t => .int (dv b (KStt.codes c)) t) := by
  k_dflt (refine sp_body (binds := [(Str.ofString "digits", .str c t), (Str.ofString "base", .int b tb), (Str.ofString "most", .int mx tm)]) (fun _ => by k_is) (fun _ => by k_is) (by first | exact fun _ _ => BindsTo.of_eq rfl | exact fun _ X9 => binds_K X9 rfl (by k_is) rfl rfl rfl) (by exact locs rfl) (by exact rfl) (by exact rfl) (by exact rfl) (by decide) ?_)
  intro dp un gd outer A₀ base h₀ g h1 L' gens drawn toks os Q hKg hO F' N' B' X' T' hOwn hsL hdp hun hret hretN
  (try dsimp only); (try with_reducible show wpAny _ _ _ _ _ _)
  k_with_none
  k_with "pyIter str" => (refine wait ?_)
  (repeat' (first | (k_unfold; (try dsimp only)) | (k_end; wrow_close) | (walk1; (try dsimp only)) | (dsimp only; walk1) | (leave1; (try dsimp only)) | fail "no step"))
  unfold waitT
  k_with_none
  k_with "state" => first | exact rfl | exact dv_step (by assumption)
  k_state (fun pre value => value = dv b pre) "value"
  all_goals (repeat' (first | (k_unfold; (try dsimp only)) | (k_end; wrow_close) | (walk1; (try dsimp only)) | (dsimp only; walk1) | (leave1; (try dsimp only)) | fail "no step"))
  · have h9 := hm (kPre ++ [(kN : Int)]) kPost (by rw [kEq, List.append_assoc]; rfl)
    rw [← dv_step kInv] at h9
    omega
  · exact hret _ _ _ (end_kept hKg (by assumption)) ⟨_, by (rw [kInv])⟩
def figs : Str := Str.ofString "0123456789ABCDEF"
def hexRun : Nat → Int → Str → Str
  | 0, _, f => f
  | n + 1, v, f => if 0 < v then hexRun n (v.fdiv 16) (Txt.item figs (v.fmod 16) ++ f) else f
def hexRaw (v : Int) : Str := hexRun 8 (v.fdiv 16) (Txt.item figs (v.fmod 16))
def hexInv (v0 v : Int) (f : Str) : Prop := 1 ≤ f.length ∧ f.length ≤ 9 ∧ 0 ≤ v ∧ v < 16 ^ (9 - f.length) ∧ hexRun (9 - f.length) v f = hexRaw v0
theorem hexInv_start {v : Int} (h0 : 0 ≤ v) (h1 : v < 4294967296) : hexInv v (v.fdiv 16) (Txt.item (Str.ofString "0123456789ABCDEF") (v.fmod 16)) := by
  refine ⟨Nat.le_refl 1, (by decide : 1 ≤ 9), ?_, ?_, rfl⟩
  · rw [Int.fdiv_eq_ediv_of_nonneg _ (by decide)]; omega
  · rw [Int.fdiv_eq_ediv_of_nonneg _ (by decide)]; show v / 16 < 16 ^ 8; omega
theorem hexInv_step {v0 v : Int} {f : Str} (h : hexInv v0 v f) (hv : 0 < v) : hexInv v0 (v.fdiv 16) (Txt.item (Str.ofString "0123456789ABCDEF") (v.fmod 16) ++ f) := by
  obtain ⟨h1, h2, h3, h4, h5⟩ := h
  have h6 : f.length ≤ 8 := by
    rcases Nat.lt_or_ge 8 f.length with q | q
    · have : f.length = 9 := by omega
      rw [this] at h4; simp at h4; omega
    · exact q
  have hl : (Txt.item (Str.ofString "0123456789ABCDEF") (v.fmod 16) ++ f).length = f.length + 1 := by rw [Str.length_append]; show 1 + _ = _; omega
  unfold hexInv
  rw [hl]
  obtain ⟨k, hk⟩ : ∃ k, 9 - f.length = k + 1 := ⟨8 - f.length, by omega⟩
  have hk' : 9 - (f.length + 1) = k := by omega
  rw [hk'] ; rw [hk] at h4 h5
  refine ⟨by omega, by omega, ?_, ?_, ?_⟩
  · rw [Int.fdiv_eq_ediv_of_nonneg _ (by decide)]; omega
  · rw [Int.fdiv_eq_ediv_of_nonneg _ (by decide)]; rw [Int.pow_succ] at h4; omega
  · rw [← h5]; show _ = if 0 < v then _ else _; rw [if_pos hv]; rfl
theorem hexInv_end {v0 v : Int} {f : Str} (h : hexInv v0 v f) (hv : ¬ 0 < v) : f = hexRaw v0 := by
  obtain ⟨h1, h2, h3, h4, h5⟩ := h
  rw [← h5]
  cases 9 - f.length with
  | zero => rfl
  | succ n => show _ = if 0 < v then _ else _; rw [if_neg hv]
theorem hexInv_less {v0 v : Int} {f : Str} (h : hexInv v0 v f) (hv : 0 < v) : (v.fdiv 16).toNat < v.toNat := by
  rw [Int.fdiv_eq_ediv_of_nonneg _ (by decide)]; omega
theorem hexInv_len {v0 v : Int} {f : Str} (h : hexInv v0 v f) : 1 ≤ f.length ∧ f.length ≤ 9 := ⟨h.1, h.2.1⟩
def hexTxt (v : Int) : Str := if (Str.ofString "9").cps.toList < (Txt.item (hexRaw v) 0).cps.toList then Str.ofString "0" ++ hexRaw v else hexRaw v
theorem hex_digits_sp (prog : Program) (w : World) (mean : ExcName → Option Value) (mg mb : Str → Option Value) (v : Int) (t : Tok) (hv : 0 ≤ v) (hv2 : v < 4294967296) : SpV prog w mean mg mb 28 1 [.int v t] (fun t => .str (hexTxt v) t) := by
  k_dflt (refine sp_body (binds := [(Str.ofString "value", .int v t)]) (fun _ => by k_is) (fun _ => by k_is) (by first | exact fun _ _ => BindsTo.of_eq rfl | exact fun _ X9 => binds_K X9 rfl (by k_is) rfl rfl rfl) (by exact locs rfl) (by exact rfl) (by exact rfl) (by exact rfl) (by decide) ?_)
  intro dp un gd outer A₀ base h₀ g h1 L' gens drawn toks os Q hKg hO F' N' B' X' T' hOwn hsL hdp hun hret hretN
  (try dsimp only); (try with_reducible show wpAny _ _ _ _ _ _)
  k_with_none
  k_with "exec While Compare cons nil" => (refine wait ?_)
  (repeat' (first | (k_unfold; (try dsimp only)) | (k_end; wrow_close) | (walk1; (try dsimp only)) | (dsimp only; walk1) | (leave1; (try dsimp only)) | fail "no step"))
  unfold waitT
  k_with_none
  k_with "state" => first | exact hexInv_start hv hv2 | exact hexInv_step (by assumption) (by assumption)
  k_with "measure" => exact hexInv_less (v0 := v) (by assumption) (by assumption)
  k_while_given ["value!"] (fun v1 (_ : List Int) (value : Int) (found : Str) => hexInv v value found) (fun _ _ value _ => value.toNat) "value" "found"
  have hl9 := hexInv_len kInv
  (repeat' (first | (k_unfold; (try dsimp only)) | (k_end; wrow_close) | (walk1; (try dsimp only)) | (dsimp only; walk1) | (leave1; (try dsimp only)) | fail "no step"))
  all_goals (have he9 := hexInv_end kInv (by assumption); subst he9)
  · exact hret _ _ _ (end_kept hKg (by assumption)) ⟨_, by (simp only [hexTxt, *, if_true]; rfl)⟩
  · exact hret _ _ _ (end_kept hKg (by assumption)) ⟨_, by (simp only [hexTxt, *, if_false]; rfl)⟩
end Mine
namespace Mine
theorem hexRun_len (n : Nat) : ∀ (v : Int) (f : Str), (hexRun n v f).length ≤ f.length + n := by
  induction n with
  | zero => intro v f; exact Nat.le_refl _
  | succ n ih =>
    intro v f
    show (if 0 < v then hexRun n (v.fdiv 16) (Txt.item figs (v.fmod 16) ++ f) else f).length ≤ _
    split
    · have := ih (v.fdiv 16) (Txt.item figs (v.fmod 16) ++ f)
      rw [Str.length_append] at this
      have h1 : (Txt.item figs (v.fmod 16)).length = 1 := rfl
      omega
    · omega
theorem hexTxt_len (v : Int) : (hexTxt v).length ≤ 10 := by
  have := hexRun_len 8 (v.fdiv 16) (Txt.item figs (v.fmod 16))
  have h1 : (Txt.item figs (v.fmod 16)).length = 1 := rfl
  have h2 := lits
  unfold hexTxt hexRaw
  split
  · rw [Str.length_append]; omega
  · omega
def wholeTxt (v : Int) : Str := if 0 ≤ v then Str.ofString (toString v) else hexTxt (v + 4294967296) ++ Str.ofString "H"
theorem whole_text_sp (prog : Program) (w : World) (mean : ExcName → Option Value) (mg mb : Str → Option Value) (v : Int) (t : Tok) (hv : -4294967296 ≤ v) (hv2 : v < 4294967296) : SpV prog w mean mg mb 35 2 [.int v t] (fun t => .str (wholeTxt v) t) := by
  have hx9 := hexTxt_len (v + 4294967296)
  k_dflt (refine sp_body (binds := [(Str.ofString "value", .int v t)]) (fun _ => by k_is) (fun _ => by k_is) (by first | exact fun _ _ => BindsTo.of_eq rfl | exact fun _ X9 => binds_K X9 rfl (by k_is) rfl rfl rfl) (by exact locs rfl) (by exact rfl) (by exact rfl) (by exact rfl) (by decide) ?_)
  intro dp un gd outer A₀ base h₀ g h1 L' gens drawn toks os Q hKg hO F' N' B' X' T' hOwn hsL hdp hun hret hretN
  (try dsimp only); (try with_reducible show wpAny _ _ _ _ _ _)
  k_with_none
  k_with "M call" => (refine' Mine.u_pure ?_ ?_ ?_ ?_ ?_ ?_ (Mine.hex_digits_sp _ _ _ _ _ _ _ ?_ ?_) ?_ ?_ ?_; walk_at "M b"; walk_at "M l"; walk_at "M l"; walk_at "M d"; intro t9 h9 tk9 F9 N9; walk_at "M z")
  (repeat' (first | (k_unfold; (try dsimp only)) | (k_end; wrow_close) | (walk1; (try dsimp only)) | (dsimp only; walk1) | (leave1; (try dsimp only)) | fail "no step"))
  · exact hret _ _ _ (end_kept hKg (by assumption)) ⟨_, by (simp only [wholeTxt, *, if_true]; rfl)⟩
  · exact hret _ _ _ (end_kept hKg (by assumption)) ⟨_, by (simp only [wholeTxt, *, if_false]; rfl)⟩
def strTxt (v : Str) : Str := if v.length = 1 ∧ isPr v = false then hexTxt (v.cps.getD 0 0) ++ Str.ofString "X" else Str.ofString "\"" ++ v ++ Str.ofString "\""
theorem string_text_sp (prog : Program) (w : World) (mean : ExcName → Option Value) (mg mb : Str → Option Value) (v : Str) (t : Tok) (hl : v.length < 1000) (hc : v.cps.getD 0 0 < 4294967296) : SpV prog w mean mg mb 49 3 [.str v t] (fun t => .str (strTxt v) t) := by
  have hx9 := hexTxt_len (v.cps.getD 0 0)
  k_dflt (refine sp_body (binds := [(Str.ofString "value", .str v t)]) (fun _ => by k_is) (fun _ => by k_is) (by first | exact fun _ _ => BindsTo.of_eq rfl | exact fun _ X9 => binds_K X9 rfl (by k_is) rfl rfl rfl) (by exact locs rfl) (by exact rfl) (by exact rfl) (by exact rfl) (by decide) ?_)
  intro dp un gd outer A₀ base h₀ g h1 L' gens drawn toks os Q hKg hO F' N' B' X' T' hOwn hsL hdp hun hret hretN
  (try dsimp only); (try with_reducible show wpAny _ _ _ _ _ _)
  k_with_none
  k_with "M call" => (refine' Mine.u_pure ?_ ?_ ?_ ?_ ?_ ?_ (Mine.is_printable_sp _ _ _ _ _ _ _) ?_ ?_ ?_; walk_at "M b"; walk_at "M d"; intro t9 h9 tk9 F9 N9; walk_at "M z")
  k_with "M call" => (refine' Mine.u_pure ?_ ?_ ?_ ?_ ?_ ?_ (Mine.hex_digits_sp _ _ _ _ _ _ _ ?_ ?_) ?_ ?_ ?_; walk_at "M b"; walk_at "M l"; walk_at "M l"; walk_at "M d"; intro t9 h9 tk9 F9 N9; walk_at "M z")
  (repeat' (first | (k_unfold; (try dsimp only)) | (k_end; wrow_close) | (walk1; (try dsimp only)) | (dsimp only; walk1) | (leave1; (try dsimp only)) | fail "no step"))
  · exact hret _ _ _ (end_kept hKg (by assumption)) ⟨_, by (unfold strTxt; rw [if_neg (fun q => by have h1 := q.2; simp_all)])⟩
  · exact hret _ _ _ (end_kept hKg (by assumption)) ⟨_, by (unfold strTxt; rw [if_pos ⟨by omega, by assumption⟩])⟩
  · exact hret _ _ _ (end_kept hKg (by assumption)) ⟨_, by (unfold strTxt; rw [if_neg (fun q => by have h1 := q.1; omega)])⟩
end Mine
namespace Mine
abbrev setBit (mk p : Int) : Bool := Builtin.bitAnd (mk.fdiv (2 ^ p.toNat)) 1 == 1
def rtxt (r : Int × Int) : Str := if r.1 = r.2 then Str.ofString (toString r.1) else Str.ofString (toString r.1) ++ Str.ofString ".." ++ Str.ofString (toString r.2)
def intsUp (a b : Int) : List Int := (List.range (b + 1 - a).toNat).map fun (i : Nat) => a + (i : Int)
def elems (mk n : Int) : List Int := ((List.range n.toNat).map fun (i : Nat) => (i : Int)).filter (setBit mk)
def flat (rs : List (Int × Int)) : List Int := rs.flatMap fun r => intsUp r.1 r.2
def Runs (rs : List (Int × Int)) : Prop := rs.Pairwise (fun r r' => r.2 + 1 < r'.1) ∧ ∀ r ∈ rs, 0 ≤ r.1 ∧ r.1 ≤ r.2 ∧ r.2 < 32
def SetP (mk p : Int) (parts : List Str) : Prop :=
  0 ≤ p ∧ p ≤ 32 ∧ parts.length ≤ p.toNat ∧ (p < 32 → p = 0 ∨ setBit mk p = false ∨ setBit mk (p - 1) = false) ∧
  ∃ rs, parts = rs.map rtxt ∧ Runs rs ∧ flat rs = elems mk p
theorem mem_intsUp {a b x : Int} : x ∈ intsUp a b ↔ a ≤ x ∧ x ≤ b := by
  unfold intsUp
  simp only [List.mem_map, List.mem_range]
  constructor
  · rintro ⟨i, hi, rfl⟩; omega
  · intro h; exact ⟨(x - a).toNat, by omega, by omega⟩
theorem mem_elems {mk n x : Int} : x ∈ elems mk n ↔ 0 ≤ x ∧ x < n ∧ setBit mk x = true := by
  unfold elems
  simp only [List.mem_filter, List.mem_map, List.mem_range]
  constructor
  · rintro ⟨⟨i, hi, rfl⟩, hb⟩; exact ⟨by omega, by omega, hb⟩
  · rintro ⟨h1, h2, h3⟩; exact ⟨⟨x.toNat, by omega, by omega⟩, h3⟩
theorem elems_succ {mk p : Int} (h : 0 ≤ p) : elems mk (p + 1) = elems mk p ++ (if setBit mk p = true then [p] else []) := by
  unfold elems
  have : (p + 1).toNat = p.toNat + 1 := by omega
  rw [this, List.range_succ, List.map_append, List.filter_append]
  congr 1
  have e : ((p.toNat : Nat) : Int) = p := by omega
  simp only [List.map_cons, List.map_nil, List.filter_cons, List.filter_nil, e]
theorem ints_succ {a b : Int} (h : a ≤ b + 1) : intsUp a (b + 1) = intsUp a b ++ [b + 1] := by
  unfold intsUp
  have : (b + 1 + 1 - a).toNat = (b + 1 - a).toNat + 1 := by omega
  rw [this, List.range_succ, List.map_append]
  congr 1
  simp only [List.map_cons, List.map_nil, List.cons.injEq, and_true]
  omega
theorem ints_self (a : Int) : intsUp a a = [a] := by
  unfold intsUp
  have : (a + 1 - a).toNat = 1 := by omega
  rw [this]; simp
theorem elems_run {mk p : Int} (h0 : 0 ≤ p) (n : Nat) : (∀ j, p ≤ j → j ≤ p + n → setBit mk j = true) → elems mk (p + n + 1) = elems mk p ++ intsUp p (p + n) := by
  induction n with
  | zero =>
    intro hb
    have h1 := hb p (Int.le_refl _) (by omega)
    simp only [Int.natCast_zero, Int.add_zero]
    rw [elems_succ h0, if_pos h1, ints_self]
  | succ n ih =>
    intro hb
    have h1 := ih fun j a b => hb j a (by omega)
    have e : p + ((n + 1 : Nat) : Int) = p + n + 1 := by omega
    rw [e, elems_succ (by omega), h1, if_pos (hb _ (by omega) (by omega)), ints_succ (by omega), List.append_assoc]
theorem setP_start {mk : Int} : SetP mk 0 [] := ⟨Int.le_refl _, by decide, by simp, fun _ => .inl rfl, [], rfl, ⟨.nil, fun r h => (nomatch h)⟩, by simp [flat, elems]⟩
theorem setP_skip {mk p : Int} {parts : List Str} (h : SetP mk p parts) (hp : p < 32) (hb9 : Builtin.bitAnd (mk.fdiv (2 ^ p.toNat)) 1 ≠ 1) : SetP mk (p + 1) parts := by
  have hb : ¬ setBit mk p = true := by simpa [setBit] using hb9
  obtain ⟨h0, h1, h2, h3, rs, e, R, f⟩ := h
  refine ⟨by omega, by omega, by omega, fun _ => .inr (.inr ?_), rs, e, R, ?_⟩
  · have : p + 1 - 1 = p := by omega
    rw [this]; simpa using hb
  · rw [f, elems_succ h0, if_neg hb, List.append_nil]
theorem setP_run {mk p k : Int} {parts : List Str} (h : SetP mk p parts) (hp : p < 32) (hb9 : Builtin.bitAnd (mk.fdiv (2 ^ p.toNat)) 1 = 1) (h1 : p ≤ k) (h2 : k ≤ max p 31)
    (h3 : ∀ j, p ≤ j → j < k → (if j < 31 then if setBit mk (j + 1) = true then true else false else false) = true)
    (h4 : (if k < 31 then if setBit mk (k + 1) = true then true else false else false) = false) : SetP mk (k + 1) (parts ++ [rtxt (p, k)]) := by
  have hb : setBit mk p = true := by simpa [setBit] using hb9
  obtain ⟨h0, q1, q2, q3, rs, e, R, f⟩ := h
  have hk : k ≤ 31 := by omega
  refine ⟨by omega, by omega, ?_, fun q => ?_, rs ++ [(p, k)], by rw [e, List.map_append]; rfl, ⟨?_, ?_⟩, ?_⟩
  · rw [List.length_append]; show _ + 1 ≤ _; omega
  · have : k < 31 := by omega
    rw [if_pos this] at h4
    right; left
    cases hq : setBit mk (k + 1) with
    | false => rfl
    | true => rw [hq] at h4; simp at h4
  · rw [List.pairwise_append]
    refine ⟨R.1, List.pairwise_singleton _ _, fun r hr r' hr' => ?_⟩
    rw [List.mem_singleton.mp hr']
    show r.2 + 1 < p
    have hr1 := R.2 r hr
    have hm : r.2 ∈ flat rs := List.mem_flatMap.mpr ⟨r, hr, mem_intsUp.mpr ⟨hr1.2.1, Int.le_refl _⟩⟩
    rw [f] at hm
    obtain ⟨z1, z2, z3⟩ := mem_elems.mp hm
    rcases q3 hp with q | q | q
    · omega
    · rw [q] at hb; cases hb
    · have : r.2 ≠ p - 1 := fun c => by rw [c, q] at z3; cases z3
      omega
  · intro r hr
    rcases List.mem_append.mp hr with hr | hr
    · exact R.2 r hr
    · rw [List.mem_singleton.mp hr]; exact ⟨h0, h1, by show k < 32; omega⟩
  · have e1 : flat (rs ++ [(p, k)]) = flat rs ++ intsUp p k := by unfold flat; rw [List.flatMap_append]; simp
    rw [e1, f]
    have e2 : p + ((k - p).toNat : Int) = k := by omega
    have := elems_run (mk := mk) h0 (k - p).toNat (fun j a b => by
      rw [e2] at b
      by_cases hj : j = p
      · rw [hj]; exact hb
      · have := h3 (j - 1) (by omega) (by omega)
        have e3 : j - 1 + 1 = j := by omega
        rw [e3] at this
        cases hq : setBit mk j with
        | true => rfl
        | false => rw [hq] at this; simp at this)
    rw [e2] at this
    exact this.symm
theorem setP_run1 {mk p k : Int} {parts : List Str} (h : SetP mk p parts) (hp : p < 32) (hb9 : Builtin.bitAnd (mk.fdiv (2 ^ p.toNat)) 1 = 1) (h1 : p ≤ k) (h2 : k ≤ max p 31)
    (h3 : ∀ j, p ≤ j → j < k → (if j < 31 then if setBit mk (j + 1) = true then true else false else false) = true)
    (h4 : (if k < 31 then if setBit mk (k + 1) = true then true else false else false) = false) (h5 : p = k) : SetP mk (k + 1) (parts ++ [Str.ofString (toString p)]) := by
  have := setP_run h hp hb9 h1 h2 h3 h4
  unfold rtxt at this
  rwa [if_pos h5] at this
theorem setP_run2 {mk p k : Int} {parts : List Str} (h : SetP mk p parts) (hp : p < 32) (hb9 : Builtin.bitAnd (mk.fdiv (2 ^ p.toNat)) 1 = 1) (h1 : p ≤ k) (h2 : k ≤ max p 31)
    (h3 : ∀ j, p ≤ j → j < k → (if j < 31 then if setBit mk (j + 1) = true then true else false else false) = true)
    (h4 : (if k < 31 then if setBit mk (k + 1) = true then true else false else false) = false) (h5 : p ≠ k) : SetP mk (k + 1) (parts ++ [Str.ofString (toString p) ++ Str.ofString ".." ++ Str.ofString (toString k)]) := by
  have := setP_run h hp hb9 h1 h2 h3 h4
  unfold rtxt at this
  rwa [if_neg h5] at this
theorem setP_fact {mk p : Int} {parts : List Str} (h : SetP mk p parts) : 0 ≤ p ∧ p ≤ 32 ∧ parts.length ≤ 32 := ⟨h.1, h.2.1, by have h1 := h.2.2.1; have h2 := h.2.1; omega⟩
theorem small_num : ∀ a : Fin 32, (Str.ofString (toString ((a.val : Nat) : Int))).length ≤ 2 := by decide +kernel
theorem num_len {a : Int} (h0 : 0 ≤ a) (h1 : a < 32) : (Str.ofString (toString a)).length ≤ 2 := by
  have := small_num ⟨a.toNat, by omega⟩
  have e : ((a.toNat : Nat) : Int) = a := by omega
  simpa only [e] using this
theorem rtxt_len {rs : List (Int × Int)} (h : ∀ r ∈ rs, 0 ≤ r.1 ∧ r.1 ≤ r.2 ∧ r.2 < 32) : ((rs.map rtxt).map (·.length)).sum ≤ 6 * rs.length := by
  induction rs with
  | nil => simp
  | cons r rs ih =>
    have h1 := ih fun q hq => h q (.tail _ hq)
    have h2 := h r (.head _)
    simp only [List.map_cons, List.sum_cons, List.length_cons]
    have h3 : (rtxt r).length ≤ 6 := by
      unfold rtxt
      have a1 := num_len h2.1 (by omega)
      have a2 := num_len (a := r.2) (by omega) (by omega)
      have := lits
      split
      · omega
      · rw [Str.length_append, Str.length_append]; omega
    omega
theorem setP_end {mk p : Int} {parts : List Str} (h : SetP mk p parts) (hp : ¬ p < 32) : ∃ rs, parts = rs.map rtxt ∧ Runs rs ∧ flat rs = elems mk 32 ∧ (parts.map (·.length)).sum + parts.length ≤ 1000 := by
  obtain ⟨h0, q1, q2, q3, rs, e, R, f⟩ := h
  have : p = 32 := by omega
  rw [this] at f
  refine ⟨rs, e, R, f, ?_⟩
  have h1 := rtxt_len R.2
  rw [← e] at h1
  have h2 : rs.length = parts.length := by rw [e]; simp
  omega
def setStr (rs : List (Int × Int)) : Str := Str.ofString "{" ++ Txt.join (Str.ofString ", ") (rs.map rtxt) ++ Str.ofString "}"
def SetPost (mk : Int) (_ _ : Heap) (v : Value) : Prop := ∃ rs t, Runs rs ∧ flat rs = elems mk 32 ∧ v = .str (setStr rs) t

theorem setQ {mk p : Int} {parts : List Str} (h : SetP mk p parts) : SetP mk p parts ∧ 0 ≤ p ∧ p ≤ 32 ∧ parts.length ≤ 32 := ⟨h, setP_fact h⟩
theorem setStr_post {mk : Int} {parts : List Str} {t : Tok} {h h' : Heap} (hp : ∃ rs, parts = rs.map rtxt ∧ Runs rs ∧ flat rs = elems mk 32 ∧ (parts.map (·.length)).sum + parts.length ≤ 1000) :
    SetPost mk h h' (.str (Str.ofString "{" ++ Txt.join (Str.ofString ", ") parts ++ Str.ofString "}") t) := by
  obtain ⟨rs, e, R, f, _⟩ := hp
  subst e
  exact ⟨rs, t, R, f, rfl⟩
theorem join_le {sep : Str} : ∀ ys : List Str, (Txt.join sep ys).length ≤ (ys.map (·.length)).sum + ys.length * sep.length := by
  intro ys
  unfold Txt.join
  rw [size_glued]
  have : (ys.length - 1) * sep.length ≤ ys.length * sep.length := Nat.mul_le_mul_right _ (Nat.sub_le _ _)
  omega
theorem join_fits {ys : List Str} {n : Nat} (h : (ys.map (·.length)).sum + ys.length ≤ n) : (Txt.join (Str.ofString ", ") ys).length ≤ 2 * n := by
  have h1 := join_le (sep := Str.ofString ", ") ys
  have h2 := lits
  rw [h2.2.2.2.2.2.1] at h1
  omega
theorem SetPost.el {mk : Int} {h h' : Heap} {Fp : Prop} {NP : List (Addr × Obj) → Prop} {K : Value → Prop} (H : ∀ rs t, Runs rs → flat rs = elems mk 32 → Fp → NP [] → K (.str (setStr rs) t)) :
    ∀ v, SetPost mk h h' v → Fp → (∀ own', Gives [] own' h h' → NP own') → K v := fun _ ⟨rs, t, r, f, e⟩ F G => e ▸ H rs t r f F (G [] fun _ q => nomatch q)
theorem SetPost.el2 {mk : Int} {K : Value → Prop} (H : ∀ rs t, Runs rs → flat rs = elems mk 32 → K (.str (setStr rs) t)) : ∀ v, (∃ rs t, Runs rs ∧ flat rs = elems mk 32 ∧ v = .str (setStr rs) t) → K v := fun _ ⟨rs, t, r, f, e⟩ => e ▸ H rs t r f
theorem set_text_sp (prog : Program) (w : World) (mean : ExcName → Option Value) (mg mb : Str → Option Value) (mk : Int) (t : Tok) : Sp prog w mean mg mb 56 3 [.int mk t] [] (SetPost mk) := by
  k_dflt (refine sp_body (binds := [(Str.ofString "mask", .int mk t)]) (fun _ => by k_is) (fun _ => by k_is) (by first | exact fun _ _ => BindsTo.of_eq rfl | exact fun _ X9 => binds_K X9 rfl (by k_is) rfl rfl rfl) (by exact locs rfl) (by exact rfl) (by exact rfl) (by exact rfl) (by decide) ?_)
  intro dp un gd outer A₀ base h₀ g h1 L' gens drawn toks os Q hKg hO F' N' B' X' T' hOwn hsL hdp hun hret hretN
  (try dsimp only); (try with_reducible show wpAny _ _ _ _ _ _)
  k_with_none
  k_with "state" => first
    | exact setQ setP_start
    | (exact setQ (setP_skip (by with_reducible assumption) (by with_reducible assumption) (by with_reducible assumption)))
    | (exact setQ (setP_run1 (by with_reducible assumption) (by with_reducible assumption) (by with_reducible assumption) (by with_reducible assumption) (by with_reducible assumption) (by with_reducible assumption) (by with_reducible assumption) (by with_reducible assumption)))
    | (exact setQ (setP_run2 (by with_reducible assumption) (by with_reducible assumption) (by with_reducible assumption) (by with_reducible assumption) (by with_reducible assumption) (by with_reducible assumption) (by with_reducible assumption) (by with_reducible assumption)))
  k_with "measure" => omega
  k_with "exec While Compare cons nil" => (k_while (fun _ place parts => SetP mk place parts ∧ 0 ≤ place ∧ place ≤ 32 ∧ parts.length ≤ 32) (fun _ place _ => (32 - place).toNat) "place" "parts$")
  (repeat' (first | (k_unfold; (try dsimp only)) | (k_end; wrow_close) | (walk1; (try dsimp only)) | (dsimp only; walk1) | (leave1; (try dsimp only)) | fail "no step"))
  k_with_none
  have hs9 := setP_end (by with_reducible assumption) (by with_reducible assumption)
  have hw9 := hs9
  obtain ⟨_, _, _, _, hw9⟩ := hw9
  have hj9 := join_fits hw9
  k_dflt (refine' join_listW ?k1 ?k2 (by decide) (Nat.le_trans hw9 (by decide)) ?_; (case k1 => exact News.isList (by k_asm) (by k_mem)); (case k2 => (simp only [List.toList_toArray]; assumption)))
  intro t9 k9
  (repeat' (first | (k_unfold; (try dsimp only)) | (k_end; wrow_close) | (walk1; (try dsimp only)) | (dsimp only; walk1) | (leave1; (try dsimp only)) | fail "no step"))
  exact hret _ _ _ (end_kept hKg (by assumption)) (setStr_post hs9)
end Mine
namespace Mine
structure ScZ where
  (x dx : Addr)
  (h1 h2 h3 h4 : Int)
  (k1 k2 k3 k4 ts : Tok)
  (ev wv : Value)
abbrev scn (z : ScZ) (tp : Tok) (src : Str) (p : Int) : List (Addr × Obj) :=
  [(z.x, instObj 291 z.dx), (z.dx, dictOf [⟨z.h1, .str (Str.ofString "source") z.k1, .str src z.ts⟩, ⟨z.h2, .str (Str.ofString "errors") z.k2, z.ev⟩, ⟨z.h3, .str (Str.ofString "place") z.k3, .int p tp⟩, ⟨z.h4, .str (Str.ofString "words") z.k4, z.wv⟩] 4)]
abbrev at1 (src : Str) (p : Int) : Str := Txt.slice src (some p) (some (p + 1))
theorem char0_sp (prog : Program) (w : World) (mean : ExcName → Option Value) (mg mb : Str → Option Value) (z : ScZ) (tp : Tok) (src c : Str) (p : Int) (hs : src.length ≤ 1000) (hc : at1 src p = c) : SpR prog w mean mg mb 204 2 [.ref z.x] (scn z tp src p) (fun v => ∃ t, v = .str c t) := by
  k_dflt (refine sp_body (binds := _) (fun _ => by k_is) (fun _ => by k_is) (by first | exact fun _ _ => BindsTo.of_eq rfl | exact fun _ X9 => binds_K X9 rfl (by k_is) rfl rfl rfl) (by exact locs rfl) (by exact rfl) (by exact rfl) (by exact rfl) (by decide) ?_)
  intro dp un gd outer A₀ base h₀ g h1 L' gens drawn toks os Q hKg hO F' N' B' X' T' hOwn hsL hdp hun hret hretN
  (try dsimp only); (try with_reducible show wpAny _ _ _ _ _ _)
  dsimp only [scn] at N' hOwn
  k_with_none
  (repeat' (first | (k_unfold; (try dsimp only)) | (k_end; wrow_close) | (walk1; (try dsimp only)) | (dsimp only; walk1) | (leave1; (try dsimp only)) | fail "no step"))
  exact hret _ _ _ (end_kept hKg (by assumption)) ⟨end_read hKg hO (by assumption) (by assumption) (fun _ q => q), _, by simp only [Int.add_zero]; rw [← hc]⟩
theorem char1_sp (prog : Program) (w : World) (mean : ExcName → Option Value) (mg mb : Str → Option Value) (z : ScZ) (tp : Tok) (src c : Str) (p i : Int) (ti : Tok) (hs : src.length ≤ 1000) (hc : at1 src (p + i) = c) : SpR prog w mean mg mb 204 2 [.ref z.x, .int i ti] (scn z tp src p) (fun v => ∃ t, v = .str c t) := by
  k_dflt (refine sp_body (binds := [(Str.ofString "self", .ref z.x), (Str.ofString "ahead", .int i ti)]) (fun _ => by k_is) (fun _ => by k_is) (by first | exact fun _ _ => BindsTo.of_eq rfl | exact fun _ X9 => binds_K X9 rfl (by k_is) rfl rfl rfl) (by exact locs rfl) (by exact rfl) (by exact rfl) (by exact rfl) (by decide) ?_)
  intro dp un gd outer A₀ base h₀ g h1 L' gens drawn toks os Q hKg hO F' N' B' X' T' hOwn hsL hdp hun hret hretN
  (try dsimp only); (try with_reducible show wpAny _ _ _ _ _ _)
  dsimp only [scn] at N' hOwn
  k_with_none
  (repeat' (first | (k_unfold; (try dsimp only)) | (k_end; wrow_close) | (walk1; (try dsimp only)) | (dsimp only; walk1) | (leave1; (try dsimp only)) | fail "no step"))
  exact hret _ _ _ (end_kept hKg (by assumption)) ⟨end_read hKg hO (by assumption) (by assumption) (fun _ q => q), _, by rw [← hc]⟩

theorem skip_sp (prog : Program) (w : World) (mean : ExcName → Option Value) (mg mb : Str → Option Value) (z : ScZ) (tp : Tok) (src : Str) (p : Int) (c : Nat) (hs : src.length ≤ 1000) (hc : at1 src p = ⟨#[c]⟩) (h32 : 32 < c) (h40 : ((⟨#[c]⟩ : Str) == Str.ofString "(") = false) (h0 : ((⟨#[c]⟩ : Str) == Str.ofString "") = false) : SpR prog w mean mg mb 218 4 [.ref z.x] (scn z tp src p) (fun v => v = .none) := by
  k_dflt (refine sp_body (binds := [(Str.ofString "self", .ref z.x)]) (fun _ => by k_is) (fun _ => by k_is) (by first | exact fun _ _ => BindsTo.of_eq rfl | exact fun _ X9 => binds_K X9 rfl (by k_is) rfl rfl rfl) (by exact locs rfl) (by exact rfl) (by exact rfl) (by exact rfl) (by decide) ?_)
  intro dp un gd outer A₀ base h₀ g h1 L' gens drawn toks os Q hKg hO F' N' B' X' T' hOwn hsL hdp hun hret hretN
  (try dsimp only); (try with_reducible show wpAny _ _ _ _ _ _)
  dsimp only [scn] at N' hOwn
  k_with_none
  k_with "M call" => (refine' Mine.u_read ?_ ?_ ?_ ?_ ?_ ?_ ?_ (Mine.char0_sp _ _ _ _ _ (.mk ..) _ _ _ _ ?_ ?_) ?_ ?_ ?_; walk_at "M b"; walk_at "M o"; walk_at "M a"; walk_at "M e"; walk_at "M d"; intro h9 tk9; walk_at "M v"; walk_at "M z")
  k_with "M call" => (refine' Mine.u_read ?_ ?_ ?_ ?_ ?_ ?_ ?_ (Mine.char1_sp _ _ _ _ _ (.mk ..) _ _ _ _ _ _ ?_ ?_) ?_ ?_ ?_; walk_at "M b"; walk_at "M o"; walk_at "M a"; walk_at "M e"; walk_at "M d"; intro h9 tk9; walk_at "M v"; walk_at "M z")
  (repeat' (first | (k_unfold; (try dsimp only)) | (k_end; wrow_close) | (walk1; (try dsimp only)) | (dsimp only; walk1) | (leave1; (try dsimp only)) | fail "no step"))
  all_goals exact hret _ _ _ (end_kept hKg (by assumption)) ⟨end_read hKg hO (by assumption) (by assumption) (fun _ q => q), rfl⟩
theorem skip0_sp (prog : Program) (w : World) (mean : ExcName → Option Value) (mg mb : Str → Option Value) (z : ScZ) (tp : Tok) (src : Str) (p : Int) (hs : src.length ≤ 1000) (hc : at1 src p = Str.ofString "") : SpR prog w mean mg mb 218 4 [.ref z.x] (scn z tp src p) (fun v => v = .none) := by
  k_dflt (refine sp_body (binds := [(Str.ofString "self", .ref z.x)]) (fun _ => by k_is) (fun _ => by k_is) (by first | exact fun _ _ => BindsTo.of_eq rfl | exact fun _ X9 => binds_K X9 rfl (by k_is) rfl rfl rfl) (by exact locs rfl) (by exact rfl) (by exact rfl) (by exact rfl) (by decide) ?_)
  intro dp un gd outer A₀ base h₀ g h1 L' gens drawn toks os Q hKg hO F' N' B' X' T' hOwn hsL hdp hun hret hretN
  (try dsimp only); (try with_reducible show wpAny _ _ _ _ _ _)
  dsimp only [scn] at N' hOwn
  k_with_none
  k_with "M call" => (refine' Mine.u_read ?_ ?_ ?_ ?_ ?_ ?_ ?_ (Mine.char0_sp _ _ _ _ _ (.mk ..) _ _ _ _ ?_ ?_) ?_ ?_ ?_; walk_at "M b"; walk_at "M o"; walk_at "M a"; walk_at "M e"; walk_at "M d"; intro h9 tk9; walk_at "M v"; walk_at "M z")
  (repeat' (first | (k_unfold; (try dsimp only)) | (k_end; wrow_close) | (walk1; (try dsimp only)) | (dsimp only; walk1) | (leave1; (try dsimp only)) | fail "no step"))
  all_goals exact hret _ _ _ (end_kept hKg (by assumption)) ⟨end_read hKg hO (by assumption) (by assumption) (fun _ q => q), rfl⟩
end Mine
namespace Mine
theorem keywords_sp (prog : Program) (w : World) (mean : ExcName → Option Value) (mg mb : Str → Option Value) : SpV prog w mean mg mb 154 3 [] (fun t => .ref t) := by
  k_dflt (refine sp_body (binds := []) (fun _ => by k_is) (fun _ => by k_is) (by first | exact fun _ _ => BindsTo.of_eq rfl | exact fun _ X9 => binds_K X9 rfl (by k_is) rfl rfl rfl) (by exact locs rfl) (by exact rfl) (by exact rfl) (by exact rfl) (by decide) ?_)
  intro dp un gd outer A₀ base h₀ g h1 L' gens drawn toks os Q hKg hO F' N' B' X' T' hOwn hsL hdp hun hret hretN
  (try dsimp only); (try with_reducible show wpAny _ _ _ _ _ _)
  k_with_none
  (repeat' (first | (k_unfold; (try dsimp only)) | (k_end; wrow_close) | (walk1; (try dsimp only)) | (dsimp only; walk1) | (leave1; (try dsimp only)) | fail "no step"))
  exact hret _ _ _ (end_kept hKg (by assumption)) ⟨_, rfl⟩
structure TkZ where
  (y dy : Addr)
  (a1 a2 a3 : Int)
  (b1 b2 b3 c1 c3 : Tok)
  (n : Nat)
abbrev tok (t : TkZ) (kind : Str) (val : Value) (q : Int) : List (Addr × Obj) :=
  [(t.y, instObj 143 t.dy), (t.dy, dictOf [⟨t.a1, .str (Str.ofString "kind") t.b1, .str kind t.c1⟩, ⟨t.a2, .str (Str.ofString "value") t.b2, val⟩, ⟨t.a3, .str (Str.ofString "place") t.b3, .int q t.c3⟩] t.n)]
def TokPost (kind : Str) (val : Value) (q : Int) (h h' : Heap) (v : Value) : Prop := ∃ t : TkZ, v = .ref t.y ∧ Gives [] (tok t kind val q) h h' ∧ h.objs.size ≤ t.dy ∧ @LT.lt Nat _ t.dy t.y
theorem TokPost.el {kind : Str} {val : Value} {q : Int} {h h' : Heap} {L : Addr} {news : List (Addr × Obj)} {Fp : Prop} {NP : List (Addr × Obj) → Prop} {K : Value → Prop}
    (H : ∀ t : TkZ, @LT.lt Nat _ L t.dy → (∀ p ∈ news, p.1 < t.dy) → @LT.lt Nat _ t.dy t.y → Fp → NP (tok t kind val q) → K (.ref t.y)) :
    ∀ v, TokPost kind val q h h' v → Fp → (∀ own', Gives [] own' h h' → NP own') → (∀ d, h.objs.size ≤ d → L < d ∧ ∀ p ∈ news, p.1 < d) → K v :=
  fun _ ⟨t, e, g, hz, hl⟩ F G D => e ▸ H t (D _ hz).1 (D _ hz).2 hl F (G _ g)
theorem token_sp (prog : Program) (w : World) (mean : ExcName → Option Value) (mg mb : Str → Option Value) (kind : Str) (tk : Tok) (val : Value) (q : Int) (tq : Tok) : Sp prog w mean mg mb 143 5 [.str kind tk, val, .int q tq] [] (TokPost kind val q) := by
  k_dflt (refine sp_class (binds := fun x9 => [(Str.ofString "self", .ref x9), (Str.ofString "kind", .str kind tk), (Str.ofString "value", val), (Str.ofString "place", .int q tq)]) (fun _ => by k_is) (fun _ => by k_is) (fun _ => by k_is) (fun _ => by k_is) (fun _ => by k_is) (by first | exact fun _ _ _ => BindsTo.of_eq rfl | exact fun _ _ X9 => binds_K X9 rfl (by k_is) rfl rfl rfl) (fun _ => by exact locs rfl) (by exact rfl) (by exact rfl) (by exact rfl) (by decide) ?_)
  intro dp un gd outer A₀ base h₀ g h1 L' xn dn gens drawn toks os Q hKg hO hsz hlt2 hlt F' N' B' X' T' hOwn hdp hun hret
  (try k_lt hlt); k_lt2 hlt2
  (try dsimp only); (try with_reducible show wpAny _ _ _ _ _ _)
  k_with_none
  (repeat' (first | (k_unfold; (try dsimp only)) | (k_end; wrow_close) | (walk1; (try dsimp only)) | (dsimp only; walk1) | (leave1; (try dsimp only)) | fail "no step"))
  exact hret _ _ (end_kept hKg (by assumption)) ⟨⟨_, _, _, _, _, _, _, _, _, _, _⟩, rfl, end_gives hKg (by assumption) (by walk_at "M in"), hsz, hlt2⟩
theorem whole_sp (prog : Program) (w : World) (mean : ExcName → Option Value) (mg mb : Str → Option Value) (x : Addr) (v most b : Int) (tv tm tb : Tok) (h : v ≤ most) : Sp prog w mean mg mb 246 7 [.ref x, .int b tb, .int v tv, .int most tm] [] (TokPost (Str.ofString "int") (.int v tv) b) := by
  k_dflt (refine sp_body (binds := [(Str.ofString "self", .ref x), (Str.ofString "begun", .int b tb), (Str.ofString "value", .int v tv), (Str.ofString "most", .int most tm)]) (fun _ => by k_is) (fun _ => by k_is) (by first | exact fun _ _ => BindsTo.of_eq rfl | exact fun _ X9 => binds_K X9 rfl (by k_is) rfl rfl rfl) (by exact locs rfl) (by exact rfl) (by exact rfl) (by exact rfl) (by decide) ?_)
  intro dp un gd outer A₀ base h₀ g h1 L' gens drawn toks os Q hKg hO F' N' B' X' T' hOwn hsL hdp hun hret hretN
  (try dsimp only); (try with_reducible show wpAny _ _ _ _ _ _)
  k_with_none
  k_with "M call" => (refine' Mine.u_newS ?_ ?_ ?_ ?_ ?_ ?_  (Mine.token_sp _ _ _ _ _ _ _ _ _ _) ?_ ?_ ?_; walk_at "M b"; walk_at "M d"; intro h9 tk9; refine Mine.TokPost.el ?_; intro t9 hL9 l9 e9 F9 N9; dsimp only [tok, List.cons_append, List.nil_append] at N9; (try k_lt l9); walk_at "M z")
  (repeat' (first | (k_unfold; (try dsimp only)) | (k_end; wrow_close) | (walk1; (try dsimp only)) | (dsimp only; walk1) | (leave1; (try dsimp only)) | fail "no step"))
  exact hret _ _ _ (end_kept hKg (by assumption)) ⟨_, rfl, end_gives hKg (by assumption) (by walk_at "M in"), Nat.le_trans hsL (Nat.le_of_lt (by with_reducible assumption)), by with_reducible assumption⟩
def ErrPost (h h' : Heap) (v : Value) : Prop := ∃ (x d l : Addr) (h1 h2 : Int) (k1 k2 : Tok) (v2 : Value) (n : Nat), v = .ref x ∧ Gives [] [(x, instObj 122 d), (d, dictOf [⟨h1, .str (Str.ofString "rows") k1, .ref l⟩, ⟨h2, .str (Str.ofString "places") k2, v2⟩] 2), (l, listOf #[] n)] h h'
theorem ErrPost.el {h h' : Heap} {Fp : Prop} {NP : List (Addr × Obj) → Prop} {OP : (Addr × Obj) → Prop} {K : Value → Prop}
    (H : ∀ (x d l : Addr) (h1 h2 : Int) (k1 k2 : Tok) (v2 : Value) (n : Nat), Fp → NP [(x, instObj 122 d), (d, dictOf [⟨h1, .str (Str.ofString "rows") k1, .ref l⟩, ⟨h2, .str (Str.ofString "places") k2, v2⟩] 2), (l, listOf #[] n)] → K (.ref x)) :
    ∀ v, ErrPost h h' v → Fp → (∀ own', Gives [] own' h h' → NP own' ∧ ∀ p ∈ own', OP p) → K v :=
  fun _ ⟨x, d, l, h1, h2, k1, k2, v2, n, e, g⟩ F G => e ▸ H x d l h1 h2 k1 k2 v2 n F (G _ g).1
theorem errors_sp (prog : Program) (w : World) (mean : ExcName → Option Value) (mg mb : Str → Option Value) : Sp prog w mean mg mb 122 5 [] [] ErrPost := by
  k_dflt (refine sp_class (binds := fun x9 => [(Str.ofString "self", .ref x9)]) (fun _ => by k_is) (fun _ => by k_is) (fun _ => by k_is) (fun _ => by k_is) (fun _ => by k_is) (by first | exact fun _ _ _ => BindsTo.of_eq rfl | exact fun _ _ X9 => binds_K X9 rfl (by k_is) rfl rfl rfl) (fun _ => by exact locs rfl) (by exact rfl) (by exact rfl) (by exact rfl) (by decide) ?_)
  intro dp un gd outer A₀ base h₀ g h1 L' xn dn gens drawn toks os Q hKg hO hsz hlt2 hlt F' N' B' X' T' hOwn hdp hun hret
  (try k_lt hlt); k_lt2 hlt2
  (try dsimp only); (try with_reducible show wpAny _ _ _ _ _ _)
  k_with_none
  (repeat' (first | (k_unfold; (try dsimp only)) | (k_end; wrow_close) | (walk1; (try dsimp only)) | (dsimp only; walk1) | (leave1; (try dsimp only)) | fail "no step"))
  exact hret _ _ (end_kept hKg (by assumption)) ⟨_, _, _, _, _, _, _, _, _, rfl, end_gives hKg (by assumption) (by walk_at "M in")⟩
def ScPost (src : Str) (h h' : Heap) (v : Value) : Prop := ∃ (z : ScZ) (tp : Tok), v = .ref z.x ∧ Gives [] (scn z tp src 0) h h' ∧ h.objs.size ≤ z.dx ∧ @LT.lt Nat _ z.dx z.x
theorem ScPost.el {src : Str} {h h' : Heap} {L : Addr} {news : List (Addr × Obj)} {Fp : Prop} {NP : List (Addr × Obj) → Prop} {K : Value → Prop}
    (H : ∀ (z : ScZ) (tp : Tok), (∀ p ∈ news, p.1 < z.dx) → @LT.lt Nat _ z.dx z.x → Fp → NP (scn z tp src 0) → K (.ref z.x)) :
    ∀ v, ScPost src h h' v → Fp → (∀ own', Gives [] own' h h' → NP own') → (∀ d, h.objs.size ≤ d → L < d ∧ ∀ p ∈ news, p.1 < d) → K v :=
  fun _ ⟨z, tp, e, g, hz, hl⟩ F G D => e ▸ H z tp (D _ hz).2 hl F (G _ g)
theorem scanner_sp (prog : Program) (w : World) (mean : ExcName → Option Value) (mg mb : Str → Option Value) (src : Str) (ts : Tok) (ev : Value) : Sp prog w mean mg mb 291 8 [.str src ts, ev] [] (ScPost src) := by
  k_dflt (refine sp_class (binds := fun x9 => [(Str.ofString "self", .ref x9), (Str.ofString "source", .str src ts), (Str.ofString "errors", ev)]) (fun _ => by k_is) (fun _ => by k_is) (fun _ => by k_is) (fun _ => by k_is) (fun _ => by k_is) (by first | exact fun _ _ _ => BindsTo.of_eq rfl | exact fun _ _ X9 => binds_K X9 rfl (by k_is) rfl rfl rfl) (fun _ => by exact locs rfl) (by exact rfl) (by exact rfl) (by exact rfl) (by decide) ?_)
  intro dp un gd outer A₀ base h₀ g h1 L' xn dn gens drawn toks os Q hKg hO hsz hlt2 hlt F' N' B' X' T' hOwn hdp hun hret
  (try k_lt hlt); k_lt2 hlt2
  (try dsimp only); (try with_reducible show wpAny _ _ _ _ _ _)
  k_with_none
  k_with "M call" => (refine' Mine.u_pure ?_ ?_ ?_ ?_ ?_ ?_ (Mine.keywords_sp _ _ _ _ _) ?_ ?_ ?_; walk_at "M b"; walk_at "M d"; intro t9 h9 tk9 F9 N9; walk_at "M z")
  (repeat' (first | (k_unfold; (try dsimp only)) | (k_end; wrow_close) | (walk1; (try dsimp only)) | (dsimp only; walk1) | (leave1; (try dsimp only)) | fail "no step"))
  exact hret _ _ (end_kept hKg (by assumption)) ⟨⟨_, _, _, _, _, _, _, _, _, _, _, _, _⟩, _, rfl, end_gives hKg (by assumption) (by walk_at "M in"), hsz, hlt2⟩
abbrev errLed (x d l : Addr) (h1 h2 : Int) (k1 k2 : Tok) (v2 : Value) (n : Nat) : List (Addr × Obj) := [(x, instObj 122 d), (d, dictOf [⟨h1, .str (Str.ofString "rows") k1, .ref l⟩, ⟨h2, .str (Str.ofString "places") k2, v2⟩] 2), (l, listOf #[] n)]
theorem ok_sp (prog : Program) (w : World) (mean : ExcName → Option Value) (mg mb : Str → Option Value) (x d l : Addr) (h1 h2 : Int) (k1 k2 : Tok) (v2 : Value) (n : Nat) : SpR prog w mean mg mb 119 3 [.ref x] (errLed x d l h1 h2 k1 k2 v2 n) (fun v => v = .bool true) := by
  k_dflt (refine sp_body (binds := [(Str.ofString "self", .ref x)]) (fun _ => by k_is) (fun _ => by k_is) (by first | exact fun _ _ => BindsTo.of_eq rfl | exact fun _ X9 => binds_K X9 rfl (by k_is) rfl rfl rfl) (by exact locs rfl) (by exact rfl) (by exact rfl) (by exact rfl) (by decide) ?_)
  intro dp un gd outer A₀ base h₀ g h1 L' gens drawn toks os Q hKg hO F' N' B' X' T' hOwn hsL hdp hun hret hretN
  (try dsimp only); (try with_reducible show wpAny _ _ _ _ _ _)
  dsimp only [errLed] at N' hOwn
  k_with_none
  (repeat' (first | (k_unfold; (try dsimp only)) | (k_end; wrow_close) | (walk1; (try dsimp only)) | (dsimp only; walk1) | (leave1; (try dsimp only)) | fail "no step"))
  exact hret _ _ _ (end_kept hKg (by assumption)) ⟨end_read hKg hO (by assumption) (by assumption) (fun _ q => q), rfl⟩
end Mine
namespace Mine
def TakePost (z : ScZ) (tp : Tok) (src : Str) (p p' : Int) (kind : Str) (R : Value → Prop) (h h' : Heap) (v : Value) : Prop :=
  ∃ (t : TkZ) (tp' : Tok) (val : Value) (q : Int), v = .ref t.y ∧ R val ∧ Gives (scn z tp src p) (tok t kind val q ++ scn z tp' src p') h h' ∧ (@LT.lt Nat _ z.x t.dy ∧ @LT.lt Nat _ z.dx t.dy ∧ @LT.lt Nat _ t.dy t.y)
theorem TakePost.el {z : ScZ} {tp : Tok} {src kind : Str} {p p' : Int} {R : Value → Prop} {h h' : Heap} {Fp : Prop} {NP : List (Addr × Obj) → Prop} {K : Value → Prop}
    (H : ∀ (t : TkZ) (tp' : Tok) (val : Value) (q : Int), R val → (@LT.lt Nat _ z.x t.dy ∧ @LT.lt Nat _ z.dx t.dy ∧ @LT.lt Nat _ t.dy t.y) → Fp → NP (tok t kind val q ++ scn z tp' src p') → K (.ref t.y)) :
    ∀ v, TakePost z tp src p p' kind R h h' v → Fp → (∀ own', Gives (scn z tp src p) own' h h' → NP own') → K v :=
  fun _ ⟨t, tp', val, q, e, r, g, l⟩ F G => e ▸ H t tp' val q r l F (G _ g)
theorem TakePost.elV {z : ScZ} {tp : Tok} {src kind : Str} {p p' : Int} {V : Tok → Value} {h h' : Heap} {Fp : Prop} {NP : List (Addr × Obj) → Prop} {K : Value → Prop}
    (H : ∀ (t : TkZ) (tp' tv : Tok) (q : Int), (@LT.lt Nat _ z.x t.dy ∧ @LT.lt Nat _ z.dx t.dy ∧ @LT.lt Nat _ t.dy t.y) → Fp → NP (tok t kind (V tv) q ++ scn z tp' src p') → K (.ref t.y)) :
    ∀ v, TakePost z tp src p p' kind (fun v => ∃ t, v = V t) h h' v → Fp → (∀ own', Gives (scn z tp src p) own' h h' → NP own') → K v :=
  fun _ ⟨t, tp', _, q, e, ⟨tv, r⟩, g, l⟩ F G => by
    subst r
    exact e ▸ H t tp' tv q l F (G _ g)
theorem take_eof_sp (prog : Program) (w : World) (mean : ExcName → Option Value) (mg mb : Str → Option Value) (z : ScZ) (tp : Tok) (src : Str) (p : Int) (hs : src.length ≤ 1000) (hc : at1 src p = Str.ofString "") (hne : @Ne Nat z.x z.dx) : Sp prog w mean mg mb 211 8 [.ref z.x] (scn z tp src p) (TakePost z tp src p p (Str.ofString "eof") (fun v => True)) := by
  k_dflt (refine sp_body (binds := [(Str.ofString "self", .ref z.x)]) (fun _ => by k_is) (fun _ => by k_is) (by first | exact fun _ _ => BindsTo.of_eq rfl | exact fun _ X9 => binds_K X9 rfl (by k_is) rfl rfl rfl) (by exact locs rfl) (by exact rfl) (by exact rfl) (by exact rfl) (by decide) ?_)
  intro dp un gd outer A₀ base h₀ g h1 L' gens drawn toks os Q hKg hO F' N' B' X' T' hOwn hsL hdp hun hret hretN
  (try dsimp only); (try with_reducible show wpAny _ _ _ _ _ _)
  dsimp only [scn] at N' hOwn
  k_with_none
  k_with "M call" => (refine' Mine.u_newS ?_ ?_ ?_ ?_ ?_ ?_  (Mine.token_sp _ _ _ _ _ _ _ _ _ _) ?_ ?_ ?_; walk_at "M b"; walk_at "M d"; intro h9 tk9; refine Mine.TokPost.el ?_; intro t9 hL9 l9 e9 F9 N9; dsimp only [tok, List.cons_append, List.nil_append] at N9; (try k_lt l9); walk_at "M z")
  k_with "M call" => (refine' Mine.u_read ?_ ?_ ?_ ?_ ?_ ?_ ?_ (Mine.char0_sp _ _ _ _ _ (.mk ..) _ _ _ _ ?_ ?_) ?_ ?_ ?_; walk_at "M b"; walk_at "M o"; walk_at "M a"; walk_at "M e"; walk_at "M d"; intro h9 tk9; walk_at "M v"; walk_at "M z")
  k_with "M call" => (refine' Mine.u_read ?_ ?_ ?_ ?_ ?_ ?_ ?_ (Mine.skip0_sp _ _ _ _ _ (.mk ..) _ _ _ ?_ ?_) ?_ ?_ ?_; walk_at "M b"; walk_at "M o"; walk_at "M a"; walk_at "M d"; intro h9 tk9; walk_at "M v"; walk_at "M z")
  (repeat' (first | (k_unfold; (try dsimp only)) | (k_end; wrow_close) | (walk1; (try dsimp only)) | (dsimp only; walk1) | (leave1; (try dsimp only)) | fail "no step"))
  exact hret _ _ _ (end_kept hKg (by assumption)) ⟨⟨_, _, _, _, _, _, _, _, _, _, _⟩, _, _, _, rfl, trivial, end_gives hKg (by assumption) (by walk_at "M in"), (by dsimp only; omega)⟩
theorem is_digit_b (prog : Program) (w : World) (mean : ExcName → Option Value) (mg mb : Str → Option Value) (c : Str) (t : Tok) (b : Bool) (hb : isDig c = b) : SpV prog w mean mg mb 168 1 [.str c t] (fun _ => .bool b) := hb ▸ is_digit_sp prog w mean mg mb c t
theorem is_hex_digit_b (prog : Program) (w : World) (mean : ExcName → Option Value) (mg mb : Str → Option Value) (c : Str) (t : Tok) (b : Bool) (hb : isHex c = b) : SpV prog w mean mg mb 175 2 [.str c t] (fun _ => .bool b) := hb ▸ is_hex_digit_sp prog w mean mg mb c t
theorem is_letter_b (prog : Program) (w : World) (mean : ExcName → Option Value) (mg mb : Str → Option Value) (c : Str) (t : Tok) (b : Bool) (hb : isLet c = b) : SpV prog w mean mg mb 161 1 [.str c t] (fun _ => .bool b) := hb ▸ is_letter_sp prog w mean mg mb c t
end Mine
local macro_rules | `(tactic| walk_at "exec Assign") => `(tactic| k_extra "M stop")
namespace Mine
theorem scan_step {f : Str → Bool} {src : Str} {e E : Int} (hE : f (at1 src E) = false) (h : f (Txt.slice src (some e) (some (e + 1))) = true) (hl : e ≤ E) (h0 : 0 ≤ e) : 0 ≤ e + 1 ∧ e + 1 ≤ E := by
  have : e ≠ E := fun q => by rw [q] at h; rw [show Txt.slice src (some E) (some (E + 1)) = at1 src E from rfl, hE] at h; cases h
  omega
theorem scan_end {f : Str → Bool} {src : Str} {e E : Int} (hx : ∀ i, 0 ≤ i → i < E → f (at1 src i) = true) (h : f (Txt.slice src (some e) (some (e + 1))) = false) (hl : e ≤ E) (h0 : 0 ≤ e) : E = e := by
  rcases Int.lt_or_le e E with q | q
  · have := hx e h0 q
    rw [show at1 src e = Txt.slice src (some e) (some (e + 1)) from rfl, h] at this; cases this
  · omega
/-- the three ends of a numeral: what stands behind its hexadecimal figures -/
inductive NumEnd (src : Str) (ed : Int) : Int → Str → (Value → Prop) → Prop where
  | dec (hdE : isDig (at1 src ed) = false) (hdg : ∀ i, 0 ≤ i → i < ed → isDig (at1 src i) = true) (hcE : at1 src ed = Str.ofString "") (hm : (∀ pre post, KStt.codes (Txt.slice src (some 0) (some ed)) = pre ++ post → dv 10 pre ≤ 2147483647)) (hle : dv 10 (KStt.codes (Txt.slice src (some 0) (some ed))) ≤ 2147483647) (hnH : (Txt.slice src (some ed) (some (ed + 1)) == Str.ofString "H") = false) (hnX : (Txt.slice src (some ed) (some (ed + 1)) == Str.ofString "X") = false) : NumEnd src ed ed (Str.ofString "int") (fun v => ∃ t, v = .int (dv 10 (KStt.codes (Txt.slice src (some 0) (some ed)))) t)
  | hex (hcE : at1 src ed = Str.ofString "H") (hm : (∀ pre post, KStt.codes (Txt.slice src (some 0) (some ed)) = pre ++ post → dv 16 pre ≤ 4294967295)) (hV : 2147483647 < dv 16 (KStt.codes (Txt.slice src (some 0) (some ed)))) (hle : dv 16 (KStt.codes (Txt.slice src (some 0) (some ed))) ≤ 4294967295) (hnH : (Txt.slice src (some ed) (some (ed + 1)) == Str.ofString "H") = true) : NumEnd src ed (ed + 1) (Str.ofString "int") (fun v => ∃ t, v = .int (dv 16 (KStt.codes (Txt.slice src (some 0) (some ed))) - 4294967295 - 1) t)
  | chr (hcE : at1 src ed = Str.ofString "X") (hm : (∀ pre post, KStt.codes (Txt.slice src (some 0) (some ed)) = pre ++ post → dv 16 pre ≤ 255)) (hV : 0 ≤ dv 16 (KStt.codes (Txt.slice src (some 0) (some ed)))) (hle : dv 16 (KStt.codes (Txt.slice src (some 0) (some ed))) ≤ 255) (hnH : (Txt.slice src (some ed) (some (ed + 1)) == Str.ofString "H") = false) (hnX : (Txt.slice src (some ed) (some (ed + 1)) == Str.ofString "X") = true) : NumEnd src ed (ed + 1) (Str.ofString "string") (fun v => ∃ t, v = .str ⟨#[(dv 16 (KStt.codes (Txt.slice src (some 0) (some ed)))).toNat]⟩ t)
section
local macro_rules | `(tactic| walk_at "exec If") => `(tactic| k_extra "M stop")
theorem numeral_any (prog : Program) (w : World) (mean : ExcName → Option Value) (mg mb : Str → Option Value) (z : ScZ) (tp : Tok) (src : Str) (ed : Int) (tb : Tok) (p' : Int) (kind : Str) (R : Value → Prop) (hs : src.length ≤ 1000) (hne : @Ne Nat z.x z.dx) (hE0 : 0 ≤ ed)
    (hx : ∀ i, 0 ≤ i → i < ed → isHex (at1 src i) = true) (hxE : isHex (at1 src ed) = false) (hc : NumEnd src ed p' kind R) :
    Sp prog w mean mg mb 239 7 [.ref z.x, .int 0 tb] (scn z tp src 0) (TakePost z tp src 0 p' kind R) := by
  k_dflt (refine sp_body (binds := [(Str.ofString "self", .ref z.x), (Str.ofString "begun", .int 0 tb)]) (fun _ => by k_is) (fun _ => by k_is) (by first | exact fun _ _ => BindsTo.of_eq rfl | exact fun _ X9 => binds_K X9 rfl (by k_is) rfl rfl rfl) (by exact locs rfl) (by exact rfl) (by exact rfl) (by exact rfl) (by decide) ?_)
  intro dp un gd outer A₀ base h₀ g h1 L' gens drawn toks os Q hKg hO F' N' B' X' T' hOwn hsL hdp hun hret hretN
  (try dsimp only); (try with_reducible show wpAny _ _ _ _ _ _)
  dsimp only [scn] at N' hOwn
  k_with_none
  k_with "M call" => (refine' Mine.u_read ?_ ?_ ?_ ?_ ?_ ?_ ?_ (Mine.char0_sp _ _ _ _ _ (.mk ..) _ _ _ _ ?_ ?_) ?_ ?_ ?_; walk_at "M b"; walk_at "M o"; walk_at "M a"; walk_at "M e"; walk_at "M d"; intro h9 tk9; walk_at "M v"; walk_at "M z")
  k_with "M call" => (refine' Mine.u_read ?_ ?_ ?_ ?_ ?_ ?_ ?_ (Mine.char1_sp _ _ _ _ _ (.mk ..) _ _ _ _ _ _ ?_ ?_) ?_ ?_ ?_; walk_at "M b"; walk_at "M o"; walk_at "M a"; walk_at "M e"; walk_at "M d"; intro h9 tk9; walk_at "M v"; walk_at "M z")
  k_with "M call" => (refine' Mine.u_pure ?_ ?_ ?_ ?_ ?_ ?_ (Mine.digits_value_sp _ _ _ _ _ _ _ _ _ _ _ ?_ ?_) ?_ ?_ ?_; walk_at "M b"; decide; walk_at "M a"; walk_at "M d"; intro t9 h9 tk9 F9 N9; walk_at "M z")
  k_with "M call" => (refine' Mine.u_newS ?_ ?_ ?_ ?_ ?_ ?_  (Mine.token_sp _ _ _ _ _ _ _ _ _ _) ?_ ?_ ?_; walk_at "M b"; walk_at "M d"; intro h9 tk9; refine Mine.TokPost.el ?_; intro t9 hL9 l9 e9 F9 N9; dsimp only [tok, List.cons_append, List.nil_append] at N9; (try k_lt l9); walk_at "M z")
  k_with "M call" => (refine' Mine.u_newS ?_ ?_ ?_ ?_ ?_ ?_  (Mine.whole_sp _ _ _ _ _ _ _ _ _ _ _ _ ?_) ?_ ?_ ?_; walk_at "M b"; walk_at "M a"; walk_at "M d"; intro h9 tk9; refine Mine.TokPost.el ?_; intro t9 hL9 l9 e9 F9 N9; dsimp only [tok, List.cons_append, List.nil_append] at N9; (try k_lt l9); walk_at "M z")
  k_with "M call" => (refine' Mine.u_pure ?_ ?_ ?_ ?_ ?_ ?_ (Mine.is_digit_sp _ _ _ _ _ _ _) ?_ ?_ ?_; walk_at "M b"; walk_at "M d"; intro t9 h9 tk9 F9 N9; walk_at "M z")
  k_with "M call" => (refine' Mine.u_pure ?_ ?_ ?_ ?_ ?_ ?_ (Mine.is_hex_digit_sp _ _ _ _ _ _ _) ?_ ?_ ?_; walk_at "M b"; walk_at "M d"; intro t9 h9 tk9 F9 N9; walk_at "M z")
  k_with "M call" => (refine' Mine.u_pure ?_ ?_ ?_ ?_ ?_ ?_ (Mine.is_digit_b _ _ _ _ _ _ _ _ ?_) ?_ ?_ ?_; walk_at "M b"; walk_at "M a"; walk_at "M d"; intro t9 h9 tk9 F9 N9; walk_at "M z")
  k_with "M call" => (refine' Mine.u_pure ?_ ?_ ?_ ?_ ?_ ?_ (Mine.is_hex_digit_b _ _ _ _ _ _ _ _ ?_) ?_ ?_ ?_; walk_at "M b"; walk_at "M a"; walk_at "M d"; intro t9 h9 tk9 F9 N9; walk_at "M z")
  k_with "state" => first | (exact ⟨Int.le_refl _, hE0⟩) | exact scan_step hxE (by with_reducible assumption) (by with_reducible assumption) (by with_reducible assumption)
  k_with "measure" => first | (have q9 := scan_step hxE (by with_reducible assumption) (by with_reducible assumption) (by with_reducible assumption); omega)
  k_with "M while" => (k_while (fun _ e => 0 ≤ e ∧ e ≤ ed) (fun _ e => (ed - e).toNat) "end")
  k_with "M stop" => ((with_reducible show wpAny _ _ (exec (.If _ _ _ _) _) _ _ _); refine wait ?_)
  (repeat' (first | (k_unfold; (try dsimp only)) | (k_end; wrow_close) | (walk1; (try dsimp only)) | (dsimp only; walk1) | (leave1; (try dsimp only)) | fail "no step"))
  unfold waitT
  have he9 := scan_end hx (by with_reducible assumption) (by with_reducible assumption) (by with_reducible assumption)
  subst he9
  cases hc with
  | dec hdE hdg hcE hm hle hnH hnX =>
    k_with_none
    k_with "M call" => (refine' Mine.u_read ?_ ?_ ?_ ?_ ?_ ?_ ?_ (Mine.char0_sp _ _ _ _ _ (.mk ..) _ _ _ _ ?_ ?_) ?_ ?_ ?_; walk_at "M b"; walk_at "M o"; walk_at "M a"; walk_at "M e"; walk_at "M d"; intro h9 tk9; walk_at "M v"; walk_at "M z")
    k_with "M call" => (refine' Mine.u_read ?_ ?_ ?_ ?_ ?_ ?_ ?_ (Mine.char1_sp _ _ _ _ _ (.mk ..) _ _ _ _ _ _ ?_ ?_) ?_ ?_ ?_; walk_at "M b"; walk_at "M o"; walk_at "M a"; walk_at "M e"; walk_at "M d"; intro h9 tk9; walk_at "M v"; walk_at "M z")
    k_with "M call" => (refine' Mine.u_pure ?_ ?_ ?_ ?_ ?_ ?_ (Mine.digits_value_sp _ _ _ _ _ _ _ _ _ _ _ ?_ ?_) ?_ ?_ ?_; walk_at "M b"; decide; walk_at "M a"; walk_at "M d"; intro t9 h9 tk9 F9 N9; walk_at "M z")
    k_with "M call" => (refine' Mine.u_newS ?_ ?_ ?_ ?_ ?_ ?_  (Mine.token_sp _ _ _ _ _ _ _ _ _ _) ?_ ?_ ?_; walk_at "M b"; walk_at "M d"; intro h9 tk9; refine Mine.TokPost.el ?_; intro t9 hL9 l9 e9 F9 N9; dsimp only [tok, List.cons_append, List.nil_append] at N9; (try k_lt l9); walk_at "M z")
    k_with "M call" => (refine' Mine.u_newS ?_ ?_ ?_ ?_ ?_ ?_  (Mine.whole_sp _ _ _ _ _ _ _ _ _ _ _ _ ?_) ?_ ?_ ?_; walk_at "M b"; walk_at "M a"; walk_at "M d"; intro h9 tk9; refine Mine.TokPost.el ?_; intro t9 hL9 l9 e9 F9 N9; dsimp only [tok, List.cons_append, List.nil_append] at N9; (try k_lt l9); walk_at "M z")
    k_with "M call" => (refine' Mine.u_pure ?_ ?_ ?_ ?_ ?_ ?_ (Mine.is_digit_sp _ _ _ _ _ _ _) ?_ ?_ ?_; walk_at "M b"; walk_at "M d"; intro t9 h9 tk9 F9 N9; walk_at "M z")
    k_with "M call" => (refine' Mine.u_pure ?_ ?_ ?_ ?_ ?_ ?_ (Mine.is_hex_digit_sp _ _ _ _ _ _ _) ?_ ?_ ?_; walk_at "M b"; walk_at "M d"; intro t9 h9 tk9 F9 N9; walk_at "M z")
    k_with "M call" => (refine' Mine.u_pure ?_ ?_ ?_ ?_ ?_ ?_ (Mine.is_digit_b _ _ _ _ _ _ _ _ ?_) ?_ ?_ ?_; walk_at "M b"; walk_at "M a"; walk_at "M d"; intro t9 h9 tk9 F9 N9; walk_at "M z")
    k_with "M call" => (refine' Mine.u_pure ?_ ?_ ?_ ?_ ?_ ?_ (Mine.is_hex_digit_b _ _ _ _ _ _ _ _ ?_) ?_ ?_ ?_; walk_at "M b"; walk_at "M a"; walk_at "M d"; intro t9 h9 tk9 F9 N9; walk_at "M z")
    k_with "state" => first | (exact ⟨Int.le_refl _, hE0⟩) | exact scan_step hdE (by with_reducible assumption) (by with_reducible assumption) (by with_reducible assumption)
    k_with "measure" => first | (have q9 := scan_step hdE (by with_reducible assumption) (by with_reducible assumption) (by with_reducible assumption); omega)
    k_with "M while" => (k_while (fun _ e => 0 ≤ e ∧ e ≤ ed) (fun _ e => (ed - e).toNat) "end")
    k_with "M stop" => ((with_reducible show wpAny _ _ (exec (.Assign [.Attribute _ _ _] (.Name (Str.ofString "end") _) _) _) _ _ _); refine wait ?_)
    (repeat' (first | (k_unfold; (try dsimp only)) | (k_end; wrow_close) | (walk1; (try dsimp only)) | (dsimp only; walk1) | (leave1; (try dsimp only)) | fail "no step"))
    unfold waitT
    have he9 := scan_end hdg (by with_reducible assumption) (by with_reducible assumption) (by with_reducible assumption)
    subst he9
    k_with_none
    k_with "M call" => (refine' Mine.u_read ?_ ?_ ?_ ?_ ?_ ?_ ?_ (Mine.char0_sp _ _ _ _ _ (.mk ..) _ _ _ _ ?_ ?_) ?_ ?_ ?_; walk_at "M b"; walk_at "M o"; walk_at "M a"; walk_at "M e"; walk_at "M d"; intro h9 tk9; walk_at "M v"; walk_at "M z")
    k_with "M call" => (refine' Mine.u_read ?_ ?_ ?_ ?_ ?_ ?_ ?_ (Mine.char1_sp _ _ _ _ _ (.mk ..) _ _ _ _ _ _ ?_ ?_) ?_ ?_ ?_; walk_at "M b"; walk_at "M o"; walk_at "M a"; walk_at "M e"; walk_at "M d"; intro h9 tk9; walk_at "M v"; walk_at "M z")
    k_with "M call" => (refine' Mine.u_pure ?_ ?_ ?_ ?_ ?_ ?_ (Mine.digits_value_sp _ _ _ _ _ _ _ _ _ _ _ ?_ ?_) ?_ ?_ ?_; walk_at "M b"; decide; walk_at "M a"; walk_at "M d"; intro t9 h9 tk9 F9 N9; walk_at "M z")
    k_with "M call" => (refine' Mine.u_newS ?_ ?_ ?_ ?_ ?_ ?_  (Mine.token_sp _ _ _ _ _ _ _ _ _ _) ?_ ?_ ?_; walk_at "M b"; walk_at "M d"; intro h9 tk9; refine Mine.TokPost.el ?_; intro t9 hL9 l9 e9 F9 N9; dsimp only [tok, List.cons_append, List.nil_append] at N9; (try k_lt l9); walk_at "M z")
    k_with "M call" => (refine' Mine.u_newS ?_ ?_ ?_ ?_ ?_ ?_  (Mine.whole_sp _ _ _ _ _ _ _ _ _ _ _ _ ?_) ?_ ?_ ?_; walk_at "M b"; walk_at "M a"; walk_at "M d"; intro h9 tk9; refine Mine.TokPost.el ?_; intro t9 hL9 l9 e9 F9 N9; dsimp only [tok, List.cons_append, List.nil_append] at N9; (try k_lt l9); walk_at "M z")
    k_with "M call" => (refine' Mine.u_pure ?_ ?_ ?_ ?_ ?_ ?_ (Mine.is_digit_sp _ _ _ _ _ _ _) ?_ ?_ ?_; walk_at "M b"; walk_at "M d"; intro t9 h9 tk9 F9 N9; walk_at "M z")
    k_with "M call" => (refine' Mine.u_pure ?_ ?_ ?_ ?_ ?_ ?_ (Mine.is_hex_digit_sp _ _ _ _ _ _ _) ?_ ?_ ?_; walk_at "M b"; walk_at "M d"; intro t9 h9 tk9 F9 N9; walk_at "M z")
    k_with "M call" => (refine' Mine.u_pure ?_ ?_ ?_ ?_ ?_ ?_ (Mine.is_digit_b _ _ _ _ _ _ _ _ ?_) ?_ ?_ ?_; walk_at "M b"; walk_at "M a"; walk_at "M d"; intro t9 h9 tk9 F9 N9; walk_at "M z")
    k_with "M call" => (refine' Mine.u_pure ?_ ?_ ?_ ?_ ?_ ?_ (Mine.is_hex_digit_b _ _ _ _ _ _ _ _ ?_) ?_ ?_ ?_; walk_at "M b"; walk_at "M a"; walk_at "M d"; intro t9 h9 tk9 F9 N9; walk_at "M z")
    (repeat' (first | (k_unfold; (try dsimp only)) | (k_end; wrow_close) | (walk1; (try dsimp only)) | (dsimp only; walk1) | (leave1; (try dsimp only)) | fail "no step"))
    exact hret _ _ _ (end_kept hKg (by assumption)) ⟨⟨_, _, _, _, _, _, _, _, _, _, _⟩, _, _, _, rfl, ⟨_, rfl⟩, end_gives hKg (by assumption) (by walk_at "M in"), (by dsimp only; omega)⟩
  | hex hcE hm hV hle hnH =>
    k_with_none
    k_with "M call" => (refine' Mine.u_read ?_ ?_ ?_ ?_ ?_ ?_ ?_ (Mine.char0_sp _ _ _ _ _ (.mk ..) _ _ _ _ ?_ ?_) ?_ ?_ ?_; walk_at "M b"; walk_at "M o"; walk_at "M a"; walk_at "M e"; walk_at "M d"; intro h9 tk9; walk_at "M v"; walk_at "M z")
    k_with "M call" => (refine' Mine.u_read ?_ ?_ ?_ ?_ ?_ ?_ ?_ (Mine.char1_sp _ _ _ _ _ (.mk ..) _ _ _ _ _ _ ?_ ?_) ?_ ?_ ?_; walk_at "M b"; walk_at "M o"; walk_at "M a"; walk_at "M e"; walk_at "M d"; intro h9 tk9; walk_at "M v"; walk_at "M z")
    k_with "M call" => (refine' Mine.u_pure ?_ ?_ ?_ ?_ ?_ ?_ (Mine.digits_value_sp _ _ _ _ _ _ _ _ _ _ _ ?_ ?_) ?_ ?_ ?_; walk_at "M b"; decide; walk_at "M a"; walk_at "M d"; intro t9 h9 tk9 F9 N9; walk_at "M z")
    k_with "M call" => (refine' Mine.u_newS ?_ ?_ ?_ ?_ ?_ ?_  (Mine.token_sp _ _ _ _ _ _ _ _ _ _) ?_ ?_ ?_; walk_at "M b"; walk_at "M d"; intro h9 tk9; refine Mine.TokPost.el ?_; intro t9 hL9 l9 e9 F9 N9; dsimp only [tok, List.cons_append, List.nil_append] at N9; (try k_lt l9); walk_at "M z")
    k_with "M call" => (refine' Mine.u_newS ?_ ?_ ?_ ?_ ?_ ?_  (Mine.whole_sp _ _ _ _ _ _ _ _ _ _ _ _ ?_) ?_ ?_ ?_; walk_at "M b"; walk_at "M a"; walk_at "M d"; intro h9 tk9; refine Mine.TokPost.el ?_; intro t9 hL9 l9 e9 F9 N9; dsimp only [tok, List.cons_append, List.nil_append] at N9; (try k_lt l9); walk_at "M z")
    k_with "M call" => (refine' Mine.u_pure ?_ ?_ ?_ ?_ ?_ ?_ (Mine.is_digit_sp _ _ _ _ _ _ _) ?_ ?_ ?_; walk_at "M b"; walk_at "M d"; intro t9 h9 tk9 F9 N9; walk_at "M z")
    k_with "M call" => (refine' Mine.u_pure ?_ ?_ ?_ ?_ ?_ ?_ (Mine.is_hex_digit_sp _ _ _ _ _ _ _) ?_ ?_ ?_; walk_at "M b"; walk_at "M d"; intro t9 h9 tk9 F9 N9; walk_at "M z")
    k_with "M call" => (refine' Mine.u_pure ?_ ?_ ?_ ?_ ?_ ?_ (Mine.is_digit_b _ _ _ _ _ _ _ _ ?_) ?_ ?_ ?_; walk_at "M b"; walk_at "M a"; walk_at "M d"; intro t9 h9 tk9 F9 N9; walk_at "M z")
    k_with "M call" => (refine' Mine.u_pure ?_ ?_ ?_ ?_ ?_ ?_ (Mine.is_hex_digit_b _ _ _ _ _ _ _ _ ?_) ?_ ?_ ?_; walk_at "M b"; walk_at "M a"; walk_at "M d"; intro t9 h9 tk9 F9 N9; walk_at "M z")
    (repeat' (first | (k_unfold; (try dsimp only)) | (k_end; wrow_close) | (walk1; (try dsimp only)) | (dsimp only; walk1) | (leave1; (try dsimp only)) | fail "no step"))
    exact hret _ _ _ (end_kept hKg (by assumption)) ⟨⟨_, _, _, _, _, _, _, _, _, _, _⟩, _, _, _, rfl, ⟨_, rfl⟩, end_gives hKg (by assumption) (by walk_at "M in"), (by dsimp only; omega)⟩
  | chr hcE hm hV hle hnH hnX =>
    k_with_none
    k_with "M call" => (refine' Mine.u_read ?_ ?_ ?_ ?_ ?_ ?_ ?_ (Mine.char0_sp _ _ _ _ _ (.mk ..) _ _ _ _ ?_ ?_) ?_ ?_ ?_; walk_at "M b"; walk_at "M o"; walk_at "M a"; walk_at "M e"; walk_at "M d"; intro h9 tk9; walk_at "M v"; walk_at "M z")
    k_with "M call" => (refine' Mine.u_read ?_ ?_ ?_ ?_ ?_ ?_ ?_ (Mine.char1_sp _ _ _ _ _ (.mk ..) _ _ _ _ _ _ ?_ ?_) ?_ ?_ ?_; walk_at "M b"; walk_at "M o"; walk_at "M a"; walk_at "M e"; walk_at "M d"; intro h9 tk9; walk_at "M v"; walk_at "M z")
    k_with "M call" => (refine' Mine.u_pure ?_ ?_ ?_ ?_ ?_ ?_ (Mine.digits_value_sp _ _ _ _ _ _ _ _ _ _ _ ?_ ?_) ?_ ?_ ?_; walk_at "M b"; decide; walk_at "M a"; walk_at "M d"; intro t9 h9 tk9 F9 N9; walk_at "M z")
    k_with "M call" => (refine' Mine.u_newS ?_ ?_ ?_ ?_ ?_ ?_  (Mine.token_sp _ _ _ _ _ _ _ _ _ _) ?_ ?_ ?_; walk_at "M b"; walk_at "M d"; intro h9 tk9; refine Mine.TokPost.el ?_; intro t9 hL9 l9 e9 F9 N9; dsimp only [tok, List.cons_append, List.nil_append] at N9; (try k_lt l9); walk_at "M z")
    k_with "M call" => (refine' Mine.u_newS ?_ ?_ ?_ ?_ ?_ ?_  (Mine.whole_sp _ _ _ _ _ _ _ _ _ _ _ _ ?_) ?_ ?_ ?_; walk_at "M b"; walk_at "M a"; walk_at "M d"; intro h9 tk9; refine Mine.TokPost.el ?_; intro t9 hL9 l9 e9 F9 N9; dsimp only [tok, List.cons_append, List.nil_append] at N9; (try k_lt l9); walk_at "M z")
    k_with "M call" => (refine' Mine.u_pure ?_ ?_ ?_ ?_ ?_ ?_ (Mine.is_digit_sp _ _ _ _ _ _ _) ?_ ?_ ?_; walk_at "M b"; walk_at "M d"; intro t9 h9 tk9 F9 N9; walk_at "M z")
    k_with "M call" => (refine' Mine.u_pure ?_ ?_ ?_ ?_ ?_ ?_ (Mine.is_hex_digit_sp _ _ _ _ _ _ _) ?_ ?_ ?_; walk_at "M b"; walk_at "M d"; intro t9 h9 tk9 F9 N9; walk_at "M z")
    k_with "M call" => (refine' Mine.u_pure ?_ ?_ ?_ ?_ ?_ ?_ (Mine.is_digit_b _ _ _ _ _ _ _ _ ?_) ?_ ?_ ?_; walk_at "M b"; walk_at "M a"; walk_at "M d"; intro t9 h9 tk9 F9 N9; walk_at "M z")
    k_with "M call" => (refine' Mine.u_pure ?_ ?_ ?_ ?_ ?_ ?_ (Mine.is_hex_digit_b _ _ _ _ _ _ _ _ ?_) ?_ ?_ ?_; walk_at "M b"; walk_at "M a"; walk_at "M d"; intro t9 h9 tk9 F9 N9; walk_at "M z")
    (repeat' (first | (k_unfold; (try dsimp only)) | (k_end; wrow_close) | (walk1; (try dsimp only)) | (dsimp only; walk1) | (leave1; (try dsimp only)) | fail "no step"))
    exact hret _ _ _ (end_kept hKg (by assumption)) ⟨⟨_, _, _, _, _, _, _, _, _, _, _⟩, _, _, _, rfl, ⟨_, rfl⟩, end_gives hKg (by assumption) (by walk_at "M in"), (by dsimp only; omega)⟩
end
theorem numeral_dec_sp (prog : Program) (w : World) (mean : ExcName → Option Value) (mg mb : Str → Option Value) (z : ScZ) (tp : Tok) (src : Str) (ed : Int) (tb : Tok) (hs : src.length ≤ 1000) (hne : @Ne Nat z.x z.dx) (hE0 : 0 ≤ ed)
    (hx : ∀ i, 0 ≤ i → i < ed → isHex (at1 src i) = true) (hdg : ∀ i, 0 ≤ i → i < ed → isDig (at1 src i) = true) (hcE : at1 src ed = Str.ofString "")
    (hm : ∀ pre post, KStt.codes (Txt.slice src (some 0) (some ed)) = pre ++ post → dv 10 pre ≤ 2147483647) :
    Sp prog w mean mg mb 239 7 [.ref z.x, .int 0 tb] (scn z tp src 0) (TakePost z tp src 0 ed (Str.ofString "int") (fun v => ∃ t, v = .int (dv 10 (KStt.codes (Txt.slice src (some 0) (some ed)))) t)) := by
  have hxE : isHex (at1 src ed) = false := by rw [hcE]; decide
  have hdE : isDig (at1 src ed) = false := by rw [hcE]; decide
  have hle := hm _ [] (by rw [List.append_nil])
  have hnH : (Txt.slice src (some ed) (some (ed + 1)) == Str.ofString "H") = false := by rw [show Txt.slice src (some ed) (some (ed + 1)) = _ from hcE]; decide
  have hnX : (Txt.slice src (some ed) (some (ed + 1)) == Str.ofString "X") = false := by rw [show Txt.slice src (some ed) (some (ed + 1)) = _ from hcE]; decide
  exact numeral_any prog w mean mg mb z tp src ed tb _ _ _ hs hne hE0 hx hxE (.dec hdE hdg hcE hm hle hnH hnX)
theorem numeral_hex_sp (prog : Program) (w : World) (mean : ExcName → Option Value) (mg mb : Str → Option Value) (z : ScZ) (tp : Tok) (src : Str) (ed : Int) (tb : Tok) (hs : src.length ≤ 1000) (hne : @Ne Nat z.x z.dx) (hE0 : 0 ≤ ed)
    (hx : ∀ i, 0 ≤ i → i < ed → isHex (at1 src i) = true) (hcE : at1 src ed = Str.ofString "H")
    (hm : ∀ pre post, KStt.codes (Txt.slice src (some 0) (some ed)) = pre ++ post → dv 16 pre ≤ 4294967295) (hV : 2147483647 < dv 16 (KStt.codes (Txt.slice src (some 0) (some ed)))) :
    Sp prog w mean mg mb 239 7 [.ref z.x, .int 0 tb] (scn z tp src 0) (TakePost z tp src 0 (ed + 1) (Str.ofString "int") (fun v => ∃ t, v = .int (dv 16 (KStt.codes (Txt.slice src (some 0) (some ed))) - 4294967295 - 1) t)) := by
  have hxE : isHex (at1 src ed) = false := by rw [hcE]; decide
  have hle := hm _ [] (by rw [List.append_nil])
  have hnH : (Txt.slice src (some ed) (some (ed + 1)) == Str.ofString "H") = true := by rw [show Txt.slice src (some ed) (some (ed + 1)) = _ from hcE]; decide
  exact numeral_any prog w mean mg mb z tp src ed tb _ _ _ hs hne hE0 hx hxE (.hex hcE hm hV hle hnH)
theorem numeral_chr_sp (prog : Program) (w : World) (mean : ExcName → Option Value) (mg mb : Str → Option Value) (z : ScZ) (tp : Tok) (src : Str) (ed : Int) (tb : Tok) (hs : src.length ≤ 1000) (hne : @Ne Nat z.x z.dx) (hE0 : 0 ≤ ed)
    (hx : ∀ i, 0 ≤ i → i < ed → isHex (at1 src i) = true) (hcE : at1 src ed = Str.ofString "X")
    (hm : ∀ pre post, KStt.codes (Txt.slice src (some 0) (some ed)) = pre ++ post → dv 16 pre ≤ 255) (hV : 0 ≤ dv 16 (KStt.codes (Txt.slice src (some 0) (some ed)))) :
    Sp prog w mean mg mb 239 7 [.ref z.x, .int 0 tb] (scn z tp src 0) (TakePost z tp src 0 (ed + 1) (Str.ofString "string") (fun v => ∃ t, v = .str ⟨#[(dv 16 (KStt.codes (Txt.slice src (some 0) (some ed)))).toNat]⟩ t)) := by
  have hxE : isHex (at1 src ed) = false := by rw [hcE]; decide
  have hle := hm _ [] (by rw [List.append_nil])
  have hnH : (Txt.slice src (some ed) (some (ed + 1)) == Str.ofString "H") = false := by rw [show Txt.slice src (some ed) (some (ed + 1)) = _ from hcE]; decide
  have hnX : (Txt.slice src (some ed) (some (ed + 1)) == Str.ofString "X") = true := by rw [show Txt.slice src (some ed) (some (ed + 1)) = _ from hcE]; decide
  exact numeral_any prog w mean mg mb z tp src ed tb _ _ _ hs hne hE0 hx hxE (.chr hcE hm hV hle hnH hnX)
end Mine
namespace Mine
def StrP (v : Str) (p : Int) (cs : List Str) : Prop := 1 ≤ p ∧ p ≤ v.length + 1 ∧ cs = (signs v).take (p - 1).toNat
theorem signs_len {v : Str} : (signs v).length = v.length := by
  unfold signs Str.length
  simp
theorem signs_sum {v : Str} (k : Nat) : (((signs v).take k).map (·.length)).sum = ((signs v).take k).length := by
  have : ∀ l : List Str, (∀ y ∈ l, y.length = 1) → (l.map (·.length)).sum = l.length := by
    intro l
    induction l with
    | nil => intro _; rfl
    | cons y r ih =>
      intro h
      simp only [List.map_cons, List.sum_cons, List.length_cons]
      rw [ih fun z hz => h z (.tail _ hz), h y (.head _)]; omega
  refine this _ fun y hy => ?_
  have := List.mem_of_mem_take hy
  unfold signs at this
  obtain ⟨c, _, rfl⟩ := List.mem_map.mp this
  rfl
theorem strP_fact {v : Str} {p : Int} {cs : List Str} (h : StrP v p cs) (hl : v.length ≤ 900) : StrP v p cs ∧ 1 ≤ p ∧ p ≤ v.length + 1 ∧ cs.length ≤ 900 ∧ (cs.map (·.length)).sum + cs.length ≤ 2000 := by
  obtain ⟨h1, h2, h3⟩ := h
  have e := signs_sum (v := v) (p - 1).toNat
  rw [← h3] at e
  have e2 : cs.length ≤ 900 := by
    rw [h3]
    exact Nat.le_trans (List.length_take_le' _ _) (by rw [signs_len]; exact hl)
  exact ⟨⟨h1, h2, h3⟩, h1, h2, e2, by omega⟩
theorem strP_start {v : Str} : StrP v (0 + 1) [] := ⟨by omega, by omega, by simp⟩
theorem strP_step {v : Str} {p : Int} {cs : List Str} {c : Nat} (h : StrP v p cs) (hp : p < v.length + 1) (hc : (signs v)[(p - 1).toNat]? = some ⟨#[c]⟩) : StrP v (p + 1) (cs ++ [⟨#[c]⟩]) := by
  obtain ⟨h1, h2, h3⟩ := h
  refine ⟨by omega, by omega, ?_⟩
  have : (p + 1 - 1).toNat = (p - 1).toNat + 1 := by omega
  rw [this, List.take_add_one, ← h3, hc]
  rfl
theorem strP_end {v : Str} {p : Int} {cs : List Str} (h : StrP v p cs) (hp : ¬ p < v.length + 1) : cs = signs v := by
  obtain ⟨h1, h2, h3⟩ := h
  rw [h3, List.take_of_length_le]
  rw [signs_len]; omega
theorem one_eq (c d : Nat) : ((⟨#[c]⟩ : Str) == ⟨#[d]⟩) = decide (c = d) := by
  by_cases h : c = d
  · subst h; simp
  · rw [decide_eq_false h]
    refine beq_eq_false_iff_ne.mpr fun e => h ?_
    injection e with e
    simpa using e
theorem one_ne {c : Nat} {x : Str} {d : Nat} (hx : x = ⟨#[d]⟩) (h : c ≠ d) : ((⟨#[c]⟩ : Str) == x) = false := by rw [hx, one_eq]; exact decide_eq_false h
theorem one_ne0 {c : Nat} : ((⟨#[c]⟩ : Str) == Str.ofString "") = false := by
  refine beq_eq_false_iff_ne.mpr fun e => ?_
  have := congrArg Str.length e
  have e1 : (Str.ofString "").length = 0 := by decide
  rw [e1] at this
  exact Nat.one_ne_zero this
theorem str_body {src v : Str} {p : Int} (h1 : 1 ≤ p) (h2 : p ≤ v.length + 1) (hq : (at1 src p != Str.ofString "\"") = true)
    (hin : ∀ p : Int, 1 ≤ p → p < v.length + 1 → ∃ c : Nat, at1 src p = ⟨#[c]⟩ ∧ (signs v)[(p - 1).toNat]? = some ⟨#[c]⟩ ∧ c < 256 ∧ c ≠ 10 ∧ c ≠ 34) (hend : at1 src (v.length + 1) = Str.ofString "\"") :
    p < v.length + 1 ∧ ∃ c : Nat, at1 src p = ⟨#[c]⟩ ∧ (signs v)[(p - 1).toNat]? = some ⟨#[c]⟩ ∧ c < 256 ∧ ((⟨#[c]⟩ : Str) == Str.ofString "") = false ∧ ((⟨#[c]⟩ : Str) == Str.ofString "\n") = false := by
  have hp : p < v.length + 1 := by
    rcases Int.lt_or_le p (v.length + 1) with q | q
    · exact q
    · have : p = v.length + 1 := by omega
      rw [this, hend] at hq
      exact absurd hq (by decide)
  obtain ⟨c, a1, a2, a3, a4, a5⟩ := hin p h1 hp
  exact ⟨hp, c, a1, a2, a3, one_ne0, one_ne (d := 10) (by decide) a4⟩
theorem str_stop {src v : Str} {p : Int} (h1 : 1 ≤ p) (hq : (at1 src p != Str.ofString "\"") = false)
    (hin : ∀ p : Int, 1 ≤ p → p < v.length + 1 → ∃ c : Nat, at1 src p = ⟨#[c]⟩ ∧ (signs v)[(p - 1).toNat]? = some ⟨#[c]⟩ ∧ c < 256 ∧ c ≠ 10 ∧ c ≠ 34) : ¬ p < v.length + 1 := by
  intro q
  obtain ⟨c, a1, a2, a3, a4, a5⟩ := hin p h1 q
  rw [a1] at hq
  have := one_ne (x := Str.ofString "\"") (d := 34) (by decide) a5
  unfold bne at hq
  rw [this] at hq
  cases hq
theorem string_sp (prog : Program) (w : World) (mean : ExcName → Option Value) (mg mb : Str → Option Value) (z : ScZ) (tp : Tok) (src v : Str) (tb : Tok) (hs : src.length ≤ 1000) (hne : @Ne Nat z.x z.dx) (hl : v.length ≤ 900)
    (hin : ∀ p : Int, 1 ≤ p → p < v.length + 1 → ∃ c : Nat, at1 src p = ⟨#[c]⟩ ∧ (signs v)[(p - 1).toNat]? = some ⟨#[c]⟩ ∧ c < 256 ∧ c ≠ 10 ∧ c ≠ 34) (hend : at1 src (v.length + 1) = Str.ofString "\"") :
    Sp prog w mean mg mb 281 7 [.ref z.x, .int 0 tb] (scn z tp src 0) (TakePost z tp src 0 (v.length + 1 + 1) (Str.ofString "string") (fun r => ∃ t, r = .str (Txt.join (Str.ofString "") (signs v)) t)) := by
  k_dflt (refine sp_body (binds := [(Str.ofString "self", .ref z.x), (Str.ofString "begun", .int 0 tb)]) (fun _ => by k_is) (fun _ => by k_is) (by first | exact fun _ _ => BindsTo.of_eq rfl | exact fun _ X9 => binds_K X9 rfl (by k_is) rfl rfl rfl) (by exact locs rfl) (by exact rfl) (by exact rfl) (by exact rfl) (by decide) ?_)
  intro dp un gd outer A₀ base h₀ g h1 L' gens drawn toks os Q hKg hO F' N' B' X' T' hOwn hsL hdp hun hret hretN
  (try dsimp only); (try with_reducible show wpAny _ _ _ _ _ _)
  dsimp only [scn] at N' hOwn
  k_with_none
  k_with "M call" => (refine' Mine.u_read ?_ ?_ ?_ ?_ ?_ ?_ ?_ (Mine.char0_sp _ _ _ _ _ (.mk ..) _ _ _ _ ?_ ?_) ?_ ?_ ?_; walk_at "M b"; walk_at "M o"; walk_at "M a"; walk_at "M e"; walk_at "M d"; intro h9 tk9; walk_at "M v"; walk_at "M z")
  k_with "M call" => (refine' Mine.u_newS ?_ ?_ ?_ ?_ ?_ ?_  (Mine.token_sp _ _ _ _ _ _ _ _ _ _) ?_ ?_ ?_; walk_at "M b"; walk_at "M d"; intro h9 tk9; refine Mine.TokPost.el ?_; intro t9 hL9 l9 e9 F9 N9; dsimp only [tok, List.cons_append, List.nil_append] at N9; (try k_lt l9); walk_at "M z")
  k_with "state" => first | (exact strP_fact strP_start hl) | exact strP_fact (strP_step (by with_reducible assumption) (by with_reducible assumption) (by with_reducible assumption)) hl
  k_with "measure" => omega
  k_with "M while" => (refine wait ?_)
  (repeat' (first | (k_unfold; (try dsimp only)) | (k_end; wrow_close) | (walk1; (try dsimp only)) | (dsimp only; walk1) | (leave1; (try dsimp only)) | fail "no step"))
  unfold waitT
  (k_while (fun _ p cs => StrP v p cs ∧ 1 ≤ p ∧ p ≤ v.length + 1 ∧ cs.length ≤ 900 ∧ (cs.map (·.length)).sum + cs.length ≤ 2000) (fun _ p _ => (v.length + 1 - p).toNat) "self.place" "chars$")
  k_with "M stop" => ((with_reducible show wpAny _ _ (exec (.Assign [.Name (Str.ofString "char") _] _ _) _) _ _ _); refine wait ?_)
  (repeat' (first | (k_unfold; (try dsimp only)) | (k_end; wrow_close) | (walk1; (try dsimp only)) | (dsimp only; walk1) | (leave1; (try dsimp only)) | fail "no step"))
  · unfold waitT
    obtain ⟨hp9, c, hc9, hg9, hc1, hc2, hc3⟩ := str_body (by with_reducible assumption) (by with_reducible assumption) (by with_reducible assumption) hin hend
    k_with_none
    k_with "M call" => (refine' Mine.u_read ?_ ?_ ?_ ?_ ?_ ?_ ?_ (Mine.char0_sp _ _ _ _ _ (.mk ..) _ _ _ _ ?_ ?_) ?_ ?_ ?_; walk_at "M b"; walk_at "M o"; walk_at "M a"; walk_at "M e"; walk_at "M d"; intro h9 tk9; walk_at "M v"; walk_at "M z")
    k_with "M call" => (refine' Mine.u_newS ?_ ?_ ?_ ?_ ?_ ?_  (Mine.token_sp _ _ _ _ _ _ _ _ _ _) ?_ ?_ ?_; walk_at "M b"; walk_at "M d"; intro h9 tk9; refine Mine.TokPost.el ?_; intro t9 hL9 l9 e9 F9 N9; dsimp only [tok, List.cons_append, List.nil_append] at N9; (try k_lt l9); walk_at "M z")
    k_with "state" => exact strP_fact (strP_step (by with_reducible assumption) (by with_reducible assumption) (by with_reducible assumption)) hl
    k_with "measure" => omega
    (repeat' (first | (k_unfold; (try dsimp only)) | (k_end; wrow_close) | (walk1; (try dsimp only)) | (dsimp only; walk1) | (leave1; (try dsimp only)) | fail "no step"))
  · have hs9 := str_stop (by with_reducible assumption) (by with_reducible assumption) hin
    have he9 := strP_end (by with_reducible assumption) hs9
    subst he9
    have hp9 : (v.length : Int) + 1 = _ := Int.le_antisymm (Int.not_lt.mp hs9) (by with_reducible assumption)
    subst hp9
    exact hret _ _ _ (end_kept hKg (by assumption)) ⟨⟨_, _, _, _, _, _, _, _, _, _, _⟩, _, _, _, rfl, ⟨_, rfl⟩, end_gives hKg (by assumption) (by walk_at "M in"), (by dsimp only; omega)⟩
end Mine
namespace Mine
theorem take_num_sp (prog : Program) (w : World) (mean : ExcName → Option Value) (mg mb : Str → Option Value) (z : ScZ) (tp : Tok) (src : Str) (c : Nat) (p' : Int) (kind : Str) (R : Value → Prop) (hs : src.length ≤ 1000) (hc : at1 src 0 = ⟨#[c]⟩) (h32 : 32 < c) (h40 : ((⟨#[c]⟩ : Str) == Str.ofString "(") = false)
    (hl : isLet ⟨#[c]⟩ = false) (hd : isDig ⟨#[c]⟩ = true) (H : ∀ tb, Sp prog w mean mg mb 239 7 [.ref z.x, .int 0 tb] (scn z tp src 0) (TakePost z tp src 0 p' kind R)) :
    Sp prog w mean mg mb 211 12 [.ref z.x] (scn z tp src 0) (TakePost z tp src 0 p' kind R) := by
  have h0 : ((⟨#[c]⟩ : Str) == Str.ofString "") = false := one_ne0
  k_dflt (refine sp_body (binds := [(Str.ofString "self", .ref z.x)]) (fun _ => by k_is) (fun _ => by k_is) (by first | exact fun _ _ => BindsTo.of_eq rfl | exact fun _ X9 => binds_K X9 rfl (by k_is) rfl rfl rfl) (by exact locs rfl) (by exact rfl) (by exact rfl) (by exact rfl) (by decide) ?_)
  intro dp un gd outer A₀ base h₀ g h1 L' gens drawn toks os Q hKg hO F' N' B' X' T' hOwn hsL hdp hun hret hretN
  (try dsimp only); (try with_reducible show wpAny _ _ _ _ _ _)
  dsimp only [scn] at N' hOwn
  k_with_none
  k_with "M call" => (refine' Mine.u_read ?_ ?_ ?_ ?_ ?_ ?_ ?_ (Mine.skip_sp _ _ _ _ _ (.mk ..) _ _ _ _ ?_ ?_ ?_ ?_ ?_) ?_ ?_ ?_; walk_at "M b"; walk_at "M o"; walk_at "M a"; walk_at "M d"; intro h9 tk9; walk_at "M v"; walk_at "M z")
  k_with "M call" => (refine' Mine.u_read ?_ ?_ ?_ ?_ ?_ ?_ ?_ (Mine.char0_sp _ _ _ _ _ (.mk ..) _ _ _ _ ?_ ?_) ?_ ?_ ?_; walk_at "M b"; walk_at "M o"; walk_at "M a"; walk_at "M e"; walk_at "M d"; intro h9 tk9; walk_at "M v"; walk_at "M z")
  k_with "M call" => (refine' Mine.u_pure ?_ ?_ ?_ ?_ ?_ ?_ (Mine.is_digit_b _ _ _ _ _ _ _ _ ?_) ?_ ?_ ?_; walk_at "M b"; walk_at "M a"; walk_at "M d"; intro t9 h9 tk9 F9 N9; walk_at "M z")
  k_with "M call" => (refine' Mine.u_pure ?_ ?_ ?_ ?_ ?_ ?_ (Mine.is_letter_b _ _ _ _ _ _ _ _ ?_) ?_ ?_ ?_; walk_at "M b"; walk_at "M a"; walk_at "M d"; intro t9 h9 tk9 F9 N9; walk_at "M z")
  k_with "M call" => (refine' u_cut ?_ ?_ ?_ ?_ ?_ ?_ ?_ (H _) ?_ ?_ ?_ ?_; walk_at "M b"; walk_at "M o"; walk_at "M k"; walk_at "M d"; intro h9 tk9; refine TakePost.el ?_; intro t9 tp9 val9 q9 R9 l9 F9 N9; (try k_fold))
  (repeat' (first | (k_unfold; (try dsimp only)) | (k_end; wrow_close) | (walk1; (try dsimp only)) | (dsimp only; walk1) | (leave1; (try dsimp only)) | fail "no step"))
  exact hret _ _ _ (end_kept hKg (by assumption)) ⟨_, _, _, _, rfl, R9, end_gives hKg (by assumption) (by walk_at "M in"), l9⟩
theorem take_str_sp (prog : Program) (w : World) (mean : ExcName → Option Value) (mg mb : Str → Option Value) (z : ScZ) (tp : Tok) (src : Str) (p' : Int) (kind : Str) (R : Value → Prop) (hs : src.length ≤ 1000) (hc : at1 src 0 = ⟨#[34]⟩)
    (H : ∀ tb, Sp prog w mean mg mb 281 7 [.ref z.x, .int 0 tb] (scn z tp src 0) (TakePost z tp src 0 p' kind R)) :
    Sp prog w mean mg mb 211 12 [.ref z.x] (scn z tp src 0) (TakePost z tp src 0 p' kind R) := by
  have h0 : ((⟨#[34]⟩ : Str) == Str.ofString "") = false := by decide
  have h40 : ((⟨#[34]⟩ : Str) == Str.ofString "(") = false := by decide
  have h32 : 32 < 34 := by decide
  have hl : isLet ⟨#[34]⟩ = false := by decide
  have hd : isDig ⟨#[34]⟩ = false := by decide
  have h34 : ((⟨#[34]⟩ : Str) == Str.ofString "\"") = true := by decide
  k_dflt (refine sp_body (binds := [(Str.ofString "self", .ref z.x)]) (fun _ => by k_is) (fun _ => by k_is) (by first | exact fun _ _ => BindsTo.of_eq rfl | exact fun _ X9 => binds_K X9 rfl (by k_is) rfl rfl rfl) (by exact locs rfl) (by exact rfl) (by exact rfl) (by exact rfl) (by decide) ?_)
  intro dp un gd outer A₀ base h₀ g h1 L' gens drawn toks os Q hKg hO F' N' B' X' T' hOwn hsL hdp hun hret hretN
  (try dsimp only); (try with_reducible show wpAny _ _ _ _ _ _)
  dsimp only [scn] at N' hOwn
  k_with_none
  k_with "M call" => (refine' Mine.u_read ?_ ?_ ?_ ?_ ?_ ?_ ?_ (Mine.skip_sp _ _ _ _ _ (.mk ..) _ _ _ _ ?_ ?_ ?_ ?_ ?_) ?_ ?_ ?_; walk_at "M b"; walk_at "M o"; walk_at "M a"; walk_at "M d"; intro h9 tk9; walk_at "M v"; walk_at "M z")
  k_with "M call" => (refine' Mine.u_read ?_ ?_ ?_ ?_ ?_ ?_ ?_ (Mine.char0_sp _ _ _ _ _ (.mk ..) _ _ _ _ ?_ ?_) ?_ ?_ ?_; walk_at "M b"; walk_at "M o"; walk_at "M a"; walk_at "M e"; walk_at "M d"; intro h9 tk9; walk_at "M v"; walk_at "M z")
  k_with "M call" => (refine' Mine.u_pure ?_ ?_ ?_ ?_ ?_ ?_ (Mine.is_digit_b _ _ _ _ _ _ _ _ ?_) ?_ ?_ ?_; walk_at "M b"; walk_at "M a"; walk_at "M d"; intro t9 h9 tk9 F9 N9; walk_at "M z")
  k_with "M call" => (refine' Mine.u_pure ?_ ?_ ?_ ?_ ?_ ?_ (Mine.is_letter_b _ _ _ _ _ _ _ _ ?_) ?_ ?_ ?_; walk_at "M b"; walk_at "M a"; walk_at "M d"; intro t9 h9 tk9 F9 N9; walk_at "M z")
  k_with "M call" => (refine' u_cut ?_ ?_ ?_ ?_ ?_ ?_ ?_ (H _) ?_ ?_ ?_ ?_; walk_at "M b"; walk_at "M o"; walk_at "M k"; walk_at "M d"; intro h9 tk9; refine TakePost.el ?_; intro t9 tp9 val9 q9 R9 l9 F9 N9; (try k_fold))
  (repeat' (first | (k_unfold; (try dsimp only)) | (k_end; wrow_close) | (walk1; (try dsimp only)) | (dsimp only; walk1) | (leave1; (try dsimp only)) | fail "no step"))
  exact hret _ _ _ (end_kept hKg (by assumption)) ⟨_, _, _, _, rfl, R9, end_gives hKg (by assumption) (by walk_at "M in"), l9⟩
end Mine
namespace Mine
abbrev tup2 (a b : Value) (n : Nat) : Obj := { cls := .type "tuple", data := .seq #[a, b] n }
def ReadPost (kind : Str) (V : Tok → Value) (h h' : Heap) (v : Value) : Prop := ∃ (pr : Addr) (tk tv : Tok) (n : Nat), v = .ref pr ∧ Gives [] [(pr, tup2 (.str kind tk) (V tv) n)] h h'
theorem ReadPost.el {kind : Str} {V : Tok → Value} {h h' : Heap} {rest : List (Addr × Obj)} {Fp : Prop} {NP : List (Addr × Obj) → Prop} {K : Value → Prop}
    (H : ∀ (pr : Addr) (tk tv : Tok) (n : Nat), Fp → NP [(pr, tup2 (.str kind tk) (V tv) n)] → Off pr rest → K (.ref pr)) : ∀ v, ReadPost kind V h h' v → Fp → (∀ own', Gives [] own' h h' → NP own' ∧ ∀ p ∈ own', Off p.1 rest) → K v :=
  fun _ ⟨pr, tk, tv, n, e, g⟩ F G => e ▸ H pr tk tv n F (G _ g).1 ((G _ g).2 _ (.head _))
theorem law_read_of (prog : Program) (w : World) (mean : ExcName → Option Value) (mg mb : Str → Option Value) (src : Str) (ts : Tok) (p' : Int) (kind : Str) (V : Tok → Value) (hV : ∀ t, handedIn (V t) = true) (hs : src.length ≤ 1000) (hE : at1 src p' = Str.ofString "")
    (H : ∀ (z : ScZ) (tp : Tok), @Ne Nat z.x z.dx → Sp prog w mean mg mb 211 12 [.ref z.x] (scn z tp src 0) (TakePost z tp src 0 p' kind (fun v => ∃ t, v = V t))) :
    Sp prog w mean mg mb 460 15 [.str src ts] [] (ReadPost kind V) := by
  k_dflt (refine sp_body (binds := [(Str.ofString "source", .str src ts)]) (fun _ => by k_is) (fun _ => by k_is) (by first | exact fun _ _ => BindsTo.of_eq rfl | exact fun _ X9 => binds_K X9 rfl (by k_is) rfl rfl rfl) (by exact locs rfl) (by exact rfl) (by exact rfl) (by exact rfl) (by decide) ?_)
  intro dp un gd outer A₀ base h₀ g h1 L' gens drawn toks os Q hKg hO F' N' B' X' T' hOwn hsL hdp hun hret hretN
  (try dsimp only); (try with_reducible show wpAny _ _ _ _ _ _)
  k_with_none
  k_with "M call" => (refine' Mine.u_read ?_ ?_ ?_ ?_ ?_ ?_ ?_ (Mine.ok_sp _ _ _ _ _ _ _ _ _ _ _ _ _ _) ?_ ?_ ?_; walk_at "M b"; walk_at "M o"; walk_at "M d"; intro h9 tk9; walk_at "M v"; walk_at "M z")
  k_with "M call" => (refine' Mine.u_new ?_ ?_ ?_ ?_ ?_ ?_  (Mine.errors_sp _ _ _ _ _) ?_ ?_ ?_; walk_at "M b"; walk_at "M d"; intro h9 tk9; refine Mine.ErrPost.el ?_; intro x9 d9 l9 g1 g2 g3 g4 g5 g6 F9 N9; dsimp only [List.cons_append, List.nil_append] at N9; walk_at "M z")
  k_with "M call" => (refine' Mine.u_newS ?_ ?_ ?_ ?_ ?_ ?_  (Mine.scanner_sp _ _ _ _ _ _ _ _) ?_ ?_ ?_; walk_at "M b"; walk_at "M d"; intro h9 tk9; refine Mine.ScPost.el ?_; intro z9 tp9 l9 e9 F9 N9; dsimp only [scn, List.cons_append, List.nil_append] at N9; (try k_lt l9); walk_at "M z")
  k_with "M call" => (refine' Mine.u_cut ?_ ?_ ?_ ?_ ?_ ?_ ?_ (Mine.take_eof_sp _ _ _ _ _ (.mk ..) _ _ _ ?_ ?_ ?_) ?_ ?_ ?_ ?_; walk_at "M b"; walk_at "M o"; walk_at "M k"; walk_at "M a"; (all_goals try (apply Mine.isN; k_ne)); walk_at "M d"; intro h9 tk9; refine Mine.TakePost.el ?_; intro t9 tp9 val9 q9 _ l9 F9 N9; (try dsimp only at l9); dsimp only [tok, scn, List.cons_append, List.nil_append] at N9; walk_at "M z")
  k_with "M call" => (refine' u_cut ?_ ?_ ?_ ?_ ?_ ?_ ?_ (H (.mk ..) _ ?_) ?_ ?_ ?_ ?_; walk_at "M b"; walk_at "M o"; (all_goals try (apply isN; k_ne)); walk_at "M k"; walk_at "M d"; intro h9 tk9; refine TakePost.elV ?_; intro t9 tp9 tv9 q9 l9 F9 N9; have hh9 := hV tv9; (try dsimp only at l9); dsimp only [tok, scn, List.cons_append, List.nil_append] at N9; walk_at "M z")
  (repeat' (first | (k_unfold; (try dsimp only)) | (k_end; wrow_close) | (walk1; (try dsimp only)) | (dsimp only; walk1) | (leave1; (try dsimp only)) | fail "no step"))
  exact hret _ _ _ (end_kept hKg (by assumption)) ⟨_, _, _, _, rfl, end_gives hKg (by assumption) (by walk_at "M in")⟩
end Mine
namespace Mine
theorem at1_mid {x : Str} {i : Int} (h0 : 0 ≤ i) (h1 : i < x.length) : at1 x i = ⟨#[x.cps.getD i.toNat 0]⟩ := eq_of_beq (slice_one_closes h0 h1)
theorem at1_end {x : Str} (hl : 0 < x.length) : at1 x x.length = Str.ofString "" := by
  have e : Builtin.Str.strSliceIndices (some (x.length : Int)) (some ((x.length : Int) + 1)) 1 x.length = [] := by
    have h1 : ¬ ((x.length : Int) < 0) := by omega
    have h2 : ¬ ((x.length : Int) + 1 < 0) := by omega
    have e1 : max (0 : Int) (min (x.length : Int) (x.length : Int)) = x.length := by omega
    have e2 : max (0 : Int) (min ((x.length : Int) + 1) (x.length : Int)) = x.length := by omega
    simp only [Builtin.Str.strSliceIndices, sliceRange, h1, h2, if_false, e1, e2, show ((1 : Int) > 0) = True from by simp, if_true]
    simp
  show Txt.slice x (some (x.length : Int)) (some ((x.length : Int) + 1)) = _
  unfold Txt.slice
  rw [e]
  split
  · rename_i q
    exfalso
    simp at q
    omega
  · simp; decide
theorem cut_to {x : Str} {j : Int} (h0 : 0 ≤ j) (h1 : j ≤ x.length) : Txt.slice x (some 0) (some j) = ⟨(x.cps.toList.take j.toNat).toArray⟩ := by
  have := eq_of_beq (slice_closesL (x := x) (i := 0) (j := j) (Int.le_refl _) h0 h1)
  rw [this]; simp
theorem getD_toList {x : Str} {i : Nat} : x.cps.getD i 0 = x.cps.toList.getD i 0 := by simp [Array.getD_eq_getD_getElem?, List.getD_eq_getElem?_getD]
theorem at1_list {x : Str} {pre post : List Nat} {c : Nat} {i : Int} (h : x.cps.toList = pre ++ c :: post) (hi : i = pre.length) : at1 x i = ⟨#[c]⟩ := by
  subst hi
  have hl : x.length = pre.length + (post.length + 1) := by
    show x.cps.size = _
    rw [← Array.length_toList, h]; simp
  rw [at1_mid (by omega) (by omega), getD_toList, h]
  simp
def hexc (c : Nat) : Prop := (48 ≤ c ∧ c ≤ 57) ∨ (65 ≤ c ∧ c ≤ 70)
theorem dig_tab : ∀ c : Fin 128, (48 ≤ c.val ∧ c.val ≤ 57) → isDig ⟨#[c.val]⟩ = true ∧ isHex ⟨#[c.val]⟩ = true ∧ isLet ⟨#[c.val]⟩ = false ∧ ((⟨#[c.val]⟩ : Str) == Str.ofString "(") = false ∧ Txt.find (Str.ofString "0123456789ABCDEF") ⟨#[c.val]⟩ = (c.val : Int) - 48 := by decide +kernel
theorem hex_tab : ∀ c : Fin 128, (65 ≤ c.val ∧ c.val ≤ 70) → isHex ⟨#[c.val]⟩ = true ∧ Txt.find (Str.ofString "0123456789ABCDEF") ⟨#[c.val]⟩ = (c.val : Int) - 55 := by decide +kernel
theorem dig_facts {c : Nat} (h : 48 ≤ c ∧ c ≤ 57) : isDig ⟨#[c]⟩ = true ∧ isHex ⟨#[c]⟩ = true ∧ isLet ⟨#[c]⟩ = false ∧ ((⟨#[c]⟩ : Str) == Str.ofString "(") = false ∧ Txt.find (Str.ofString "0123456789ABCDEF") ⟨#[c]⟩ = (c : Int) - 48 := dig_tab ⟨c, by omega⟩ h
theorem hexc_facts {c : Nat} (h : hexc c) : isHex ⟨#[c]⟩ = true ∧ 0 ≤ Txt.find (Str.ofString "0123456789ABCDEF") ⟨#[c]⟩ := by
  rcases h with h | h
  · have := dig_facts h; exact ⟨this.2.1, by rw [this.2.2.2.2]; omega⟩
  · have := hex_tab ⟨c, by omega⟩ h; exact ⟨this.1, by rw [this.2]; dsimp only; omega⟩
theorem dv_mono {b : Int} (hb : 1 ≤ b) : ∀ (l : List Nat) (acc : Int), 0 ≤ acc → (∀ c ∈ l, hexc c) → acc ≤ (l.map fun (n : Nat) => (n : Int)).foldl (fun a n => a * b + Txt.find (Str.ofString "0123456789ABCDEF") ⟨#[n.toNat]⟩) acc := by
  intro l
  induction l with
  | nil => intro acc _ _; exact Int.le_refl _
  | cons c r ih =>
    intro acc h0 hc
    rw [List.map_cons, List.foldl_cons]
    have h1 := (hexc_facts (hc c (.head _))).2
    have e : ((c : Int)).toNat = c := by omega
    rw [e]
    have h2 : acc * 1 ≤ acc * b := Int.mul_le_mul_of_nonneg_left hb h0
    have h3 := ih (acc * b + Txt.find (Str.ofString "0123456789ABCDEF") ⟨#[c]⟩) (by omega) (fun d hd => hc d (.tail _ hd))
    omega
theorem dv_pre {b : Int} (hb : 1 ≤ b) {l : List Nat} (hc : ∀ c ∈ l, hexc c) {pre post : List Int} (e : (l.map fun (n : Nat) => (n : Int)) = pre ++ post) : 0 ≤ dv b pre ∧ dv b pre ≤ dv b (l.map fun (n : Nat) => (n : Int)) := by
  obtain ⟨l1, l2, rfl, rfl, rfl⟩ := List.map_eq_append_iff.mp e
  have h1 := dv_mono hb l1 0 (Int.le_refl _) (fun c h => hc c (List.mem_append.mpr (.inl h)))
  refine ⟨h1, ?_⟩
  unfold dv
  rw [List.map_append, List.foldl_append]
  exact dv_mono hb l2 _ h1 (fun c h => hc c (List.mem_append.mpr (.inr h)))
theorem dv_acc (b : Int) : ∀ (l : List Int) (acc : Int), l.foldl (fun a n => a * b + Txt.find (Str.ofString "0123456789ABCDEF") ⟨#[n.toNat]⟩) acc = acc * b ^ l.length + dv b l := by
  intro l
  induction l with
  | nil => intro acc; simp [dv]
  | cons c r ih =>
    intro acc
    unfold dv
    rw [List.foldl_cons, List.foldl_cons, ih, ih, List.length_cons, Int.pow_succ]
    rw [Int.zero_mul, Int.zero_add, Int.add_mul, Int.mul_assoc, Int.mul_comm b (b ^ r.length)]
    omega
theorem dv_cons (b : Int) (c : Int) (l : List Int) : dv b (c :: l) = Txt.find (Str.ofString "0123456789ABCDEF") ⟨#[c.toNat]⟩ * b ^ l.length + dv b l := by
  have := dv_acc b l (Txt.find (Str.ofString "0123456789ABCDEF") ⟨#[c.toNat]⟩)
  unfold dv at this ⊢
  rw [List.foldl_cons, Int.zero_mul, Int.zero_add]
  exact this
open PySem.NumText in
theorem dv10 : ∀ (l : List Nat) (acc : Nat), (∀ c ∈ l, 48 ≤ c ∧ c ≤ 57) → (l.map fun (n : Nat) => (n : Int)).foldl (fun a n => a * 10 + Txt.find (Str.ofString "0123456789ABCDEF") ⟨#[n.toNat]⟩) (acc : Int) = ((l.foldl (fun acc c => acc * 10 + (c - 48)) acc : Nat) : Int) := by
  intro l
  induction l with
  | nil => intro acc _; rfl
  | cons c r ih =>
    intro acc h
    have hc := h c (.head _)
    rw [List.map_cons, List.foldl_cons, List.foldl_cons]
    have e : ((c : Int)).toNat = c := by omega
    rw [e, (dig_facts hc).2.2.2.2]
    have e2 : (acc : Int) * 10 + ((c : Int) - 48) = ((acc * 10 + (c - 48) : Nat) : Int) := by omega
    rw [e2, ih _ fun d hd => h d (.tail _ hd)]
open PySem.NumText in
theorem dec_digits {v : Int} (h0 : 0 ≤ v) (h1 : v < 10 ^ 10) : (∀ c ∈ (Str.ofString (toString v)).cps.toList, 48 ≤ c ∧ c ≤ 57) ∧ 1 ≤ (Str.ofString (toString v)).length ∧ (Str.ofString (toString v)).length ≤ 10 ∧ dv 10 (KStt.codes (Str.ofString (toString v))) = v := by
  have hl := KT.len_num h0 h1
  have hl1 := KLn.one_le h0
  obtain ⟨m, rfl⟩ := Int.eq_ofNat_of_zero_le h0
  have hd : ∀ c ∈ (Str.ofString (toString ((m : Nat) : Int))).cps.toList, 48 ≤ c ∧ c ≤ 57 := by
    intro c hc
    rw [KIN.signs_num] at hc
    obtain ⟨ch, hch, e⟩ := List.mem_map.mp hc
    have r := digit_range (Nat.isDigit_of_mem_toDigits (by decide) (by decide) hch)
    rw [← e]
    exact r
  refine ⟨hd, hl1, hl, ?_⟩
  have := dv10 _ 0 hd
  show dv 10 ((Str.ofString (toString ((m : Nat) : Int))).cps.toList.map fun (c : Nat) => (c : Int)) = _
  unfold dv
  rw [show (0 : Int) = ((0 : Nat) : Int) from rfl, this, KIN.signs_num]
  have e := KIN.val_back m
  unfold digitsVal at e
  rw [e]
def figc (k : Nat) : Nat := if k < 10 then 48 + k else 55 + k
theorem fig_tab : ∀ k : Fin 16, Txt.item (Str.ofString "0123456789ABCDEF") ((k.val : Nat) : Int) = ⟨#[figc k.val]⟩ ∧ Txt.find (Str.ofString "0123456789ABCDEF") ⟨#[figc k.val]⟩ = (k.val : Int) := by decide +kernel
theorem fig_facts {v : Int} : ∃ c, Txt.item (Str.ofString "0123456789ABCDEF") (v.fmod 16) = ⟨#[c]⟩ ∧ hexc c ∧ Txt.find (Str.ofString "0123456789ABCDEF") ⟨#[c]⟩ = v % 16 := by
  have e : v.fmod 16 = v % 16 := Int.fmod_eq_emod_of_nonneg _ (by decide)
  rw [e]
  have h0 : 0 ≤ v % 16 := by omega
  have h1 : v % 16 < 16 := by omega
  obtain ⟨k, hk⟩ := Int.eq_ofNat_of_zero_le h0
  have hk' : k < 16 := by omega
  have t := fig_tab ⟨k, hk'⟩
  refine ⟨figc k, by rw [hk]; exact t.1, ?_, by rw [hk]; exact t.2⟩
  unfold figc hexc
  split <;> omega
theorem codes_one {c : Nat} {f : Str} : KStt.codes ((⟨#[c]⟩ : Str) ++ f) = (c : Int) :: KStt.codes f := by
  show ((#[c] ++ f.cps).toList.map fun (c : Nat) => (c : Int)) = (c : Int) :: f.cps.toList.map fun (c : Nat) => (c : Int)
  simp
theorem toList_one {c : Nat} {f : Str} : ((⟨#[c]⟩ : Str) ++ f).cps.toList = c :: f.cps.toList := by
  show (#[c] ++ f.cps).toList = _
  simp
theorem hexRun_spec (n : Nat) : ∀ (v : Int) (f : Str), 0 ≤ v → v < 16 ^ n → (∀ c ∈ f.cps.toList, hexc c) →
    (∀ c ∈ (hexRun n v f).cps.toList, hexc c) ∧ dv 16 (KStt.codes (hexRun n v f)) = v * 16 ^ f.length + dv 16 (KStt.codes f) ∧ f.length ≤ (hexRun n v f).length := by
  induction n with
  | zero =>
    intro v f h0 h1 hf
    have : v = 0 := by simp at h1; omega
    subst this
    exact ⟨hf, by rw [Int.zero_mul, Int.zero_add]; rfl, Nat.le_refl _⟩
  | succ n ih =>
    intro v f h0 h1 hf
    show (∀ c ∈ (if 0 < v then hexRun n (v.fdiv 16) (Txt.item figs (v.fmod 16) ++ f) else f).cps.toList, hexc c) ∧ dv 16 (KStt.codes (if 0 < v then hexRun n (v.fdiv 16) (Txt.item figs (v.fmod 16) ++ f) else f)) = _ ∧ f.length ≤ (if 0 < v then hexRun n (v.fdiv 16) (Txt.item figs (v.fmod 16) ++ f) else f).length
    split
    · obtain ⟨c, e1, e2, e3⟩ := fig_facts (v := v)
      have e0 : Txt.item figs (v.fmod 16) = ⟨#[c]⟩ := e1
      rw [e0]
      have ed : v.fdiv 16 = v / 16 := Int.fdiv_eq_ediv_of_nonneg _ (by decide)
      rw [ed]
      have hlen : ((⟨#[c]⟩ : Str) ++ f).length = f.length + 1 := by rw [Str.length_append]; show 1 + _ = _; omega
      obtain ⟨a1, a2, a3⟩ := ih (v / 16) (⟨#[c]⟩ ++ f) (by omega) (by rw [Int.pow_succ] at h1; omega) (by
        intro d hd
        rw [toList_one] at hd
        rcases List.mem_cons.mp hd with rfl | hd
        · exact e2
        · exact hf d hd)
      refine ⟨a1, ?_, by omega⟩
      rw [a2, codes_one, dv_cons, hlen, KStt.codes_length]
      have et : ((c : Int)).toNat = c := by omega
      rw [et, e3, Int.pow_succ]
      generalize (16 : Int) ^ f.length = P
      have hv : v = 16 * (v / 16) + v % 16 := by omega
      have : v * P = (16 * (v / 16) + v % 16) * P := by rw [← hv]
      rw [this, Int.add_mul]
      have : 16 * (v / 16) * P = v / 16 * (P * 16) := by
        rw [Int.mul_comm 16 (v / 16), Int.mul_assoc, Int.mul_comm 16 P]
      rw [this]
      omega
    · rename_i q
      have : v = 0 := by omega
      subst this
      exact ⟨hf, by rw [Int.zero_mul, Int.zero_add], Nat.le_refl _⟩
structure HexOk (x : Str) (V : Int) : Prop where
  all : ∀ c ∈ x.cps.toList, hexc c
  first : ∃ c r, x.cps.toList = c :: r ∧ 48 ≤ c ∧ c ≤ 57
  val : dv 16 (KStt.codes x) = V
  len : x.length ≤ 10
theorem str_eta {c : Nat} {r : List Nat} {x : Str} (h : x.cps.toList = c :: r) : Txt.item x 0 = ⟨#[c]⟩ := by
  have : x = ⟨(c :: r).toArray⟩ := by
    cases x with | mk a => simp only at h; rw [← h]
  rw [this]
  unfold Txt.item Txt.charAt
  simp [seqIndex?, Str.length]
theorem hexTxt_ok {V : Int} (h0 : 0 ≤ V) (h1 : V < 4294967296) : HexOk (hexTxt V) V := by
  obtain ⟨c, e1, e2, e3⟩ := fig_facts (v := V)
  have e0 : Txt.item figs (V.fmod 16) = ⟨#[c]⟩ := e1
  have ed : V.fdiv 16 = V / 16 := Int.fdiv_eq_ediv_of_nonneg _ (by decide)
  obtain ⟨a1, a2, a3⟩ := hexRun_spec 8 (V / 16) ⟨#[c]⟩ (by omega) (by show V / 16 < 4294967296; omega) (fun d hd => by
    have q : d = c := by simpa using hd
    rw [q]; exact e2)
  have er : hexRaw V = hexRun 8 (V / 16) ⟨#[c]⟩ := by unfold hexRaw; rw [e0, ed]
  rw [← er] at a1 a2 a3
  have ev : dv 16 (KStt.codes (hexRaw V)) = V := by
    rw [a2]
    show V / 16 * 16 ^ 1 + dv 16 [(c : Int)] = V
    have et : ((c : Int)).toNat = c := by omega
    have : dv 16 [(c : Int)] = V % 16 := by
      unfold dv
      rw [List.foldl_cons, List.foldl_nil, et, e3]; omega
    rw [this]; omega
  have hl := hexTxt_len V
  obtain ⟨d, r, hd⟩ : ∃ d r, (hexRaw V).cps.toList = d :: r := by
    cases q : (hexRaw V).cps.toList with
    | nil =>
      have : (hexRaw V).length = 0 := by show (hexRaw V).cps.size = 0; rw [← Array.length_toList, q]; rfl
      have h1 : (1 : Nat) ≤ (hexRaw V).length := a3
      omega
    | cons d r => exact ⟨d, r, rfl⟩
  have hi := str_eta hd
  have hx := a1 d (by rw [hd]; exact .head _)
  have l9 : (Str.ofString "9").cps.toList = [57] := by decide
  have s0 : Str.ofString "0" = ⟨#[48]⟩ := by decide
  unfold hexTxt at hl ⊢
  rw [hi, l9] at hl ⊢
  split
  · rename_i q
    rw [if_pos q] at hl
    rw [s0] at hl ⊢
    refine ⟨?_, ⟨48, (hexRaw V).cps.toList, toList_one, by omega, by omega⟩, ?_, hl⟩
    · intro e he
      rw [toList_one] at he
      rcases List.mem_cons.mp he with rfl | he
      · exact .inl ⟨by omega, by omega⟩
      · exact a1 e he
    · rw [codes_one, dv_cons, ev]
      have : Txt.find (Str.ofString "0123456789ABCDEF") ⟨#[((48 : Nat) : Int).toNat]⟩ = 0 := by decide +kernel
      rw [this]; omega
  · rename_i q
    rw [if_neg q] at hl
    refine ⟨a1, ⟨d, r, hd, ?_⟩, ev, hl⟩
    have : ¬ 57 < d := fun z => q (of_decide_eq_true (by rw [StrLaws.lt_cons_cons, decide_eq_true z]; rfl))
    rcases hx with hx | hx <;> omega
end Mine
namespace Mine
theorem toList_app {a b : Str} : (a ++ b).cps.toList = a.cps.toList ++ b.cps.toList := by
  show (a.cps ++ b.cps).toList = _
  simp
theorem len_toList {a : Str} : a.cps.toList.length = a.length := by simp [Str.length]
theorem str_of_toList {x : Str} : (⟨x.cps.toList.toArray⟩ : Str) = x := by cases x; simp
theorem at1_in {x : Str} {i : Int} (h0 : 0 ≤ i) (h1 : i < x.length) : ∃ c ∈ x.cps.toList, at1 x i = ⟨#[c]⟩ ∧ x.cps.toList[i.toNat]? = some c := by
  have hl : i.toNat < x.cps.toList.length := by rw [len_toList]; omega
  refine ⟨x.cps.toList[i.toNat], List.getElem_mem _, ?_, List.getElem?_eq_getElem hl⟩
  rw [at1_mid h0 h1, getD_toList]
  simp [List.getD_eq_getElem?_getD, List.getElem?_eq_getElem hl]
theorem at1_left {a b : Str} {i : Int} (h0 : 0 ≤ i) (h1 : i < a.length) : at1 (a ++ b) i = at1 a i := by
  rw [at1_mid h0 h1, at1_mid h0 (by rw [Str.length_append]; omega), getD_toList, getD_toList, toList_app]
  have hl : i.toNat < a.cps.toList.length := by rw [len_toList]; omega
  simp [List.getD_eq_getElem?_getD, List.getElem?_append_left hl]
theorem law_read_whole (prog : Program) (w : World) (mean : ExcName → Option Value) (mg mb : Str → Option Value) (v : Int) (ts : Tok) (h0 : -2147483648 ≤ v) (h1 : v < 2147483648) : Sp prog w mean mg mb 460 15 [.str (wholeTxt v) ts] [] (ReadPost (Str.ofString "int") (fun t => .int v t)) := by
  by_cases hv : 0 ≤ v
  · have e : wholeTxt v = Str.ofString (toString v) := by unfold wholeTxt; rw [if_pos hv]
    rw [e]
    obtain ⟨d1, d2, d3, d4⟩ := dec_digits hv (by omega)
    have hs : (Str.ofString (toString v)).length ≤ 1000 := by omega
    have hcE := at1_end (x := Str.ofString (toString v)) (by omega)
    obtain ⟨c, hc1, hc2, _⟩ := at1_in (x := Str.ofString (toString v)) (i := 0) (Int.le_refl _) (by omega)
    have hc := d1 c hc1
    have f := dig_facts hc
    have ecut : Txt.slice (Str.ofString (toString v)) (some 0) (some ((Str.ofString (toString v)).length : Int)) = Str.ofString (toString v) := by
      rw [cut_to (by omega) (by omega)]
      rw [List.take_of_length_le (by rw [len_toList]; omega), str_of_toList]
    refine law_read_of prog w mean mg mb _ ts ((Str.ofString (toString v)).length : Int) _ _ (fun _ => rfl) hs hcE fun z tp hne => ?_
    refine take_num_sp prog w mean mg mb z tp _ c _ _ _ hs hc2 (by omega) f.2.2.2.1 f.2.2.1 f.1 fun tb => ?_
    have hm : ∀ pre post, KStt.codes (Txt.slice (Str.ofString (toString v)) (some 0) (some ((Str.ofString (toString v)).length : Int))) = pre ++ post → dv 10 pre ≤ 2147483647 := by
      intro pre post q
      rw [ecut] at q
      have := (dv_pre (b := 10) (by decide) (fun c hc => .inl (d1 c hc)) q).2
      have e9 : dv 10 ((Str.ofString (toString v)).cps.toList.map fun (n : Nat) => (n : Int)) = v := d4
      omega
    have H := numeral_dec_sp prog w mean mg mb z tp (Str.ofString (toString v)) ((Str.ofString (toString v)).length : Int) tb hs hne (by omega)
      (fun i a b => by
        obtain ⟨c, a1, a2, _⟩ := at1_in a b
        rw [a2]; exact (dig_facts (d1 c a1)).2.1)
      (fun i a b => by
        obtain ⟨c, a1, a2, _⟩ := at1_in a b
        rw [a2]; exact (dig_facts (d1 c a1)).1) hcE hm
    rw [ecut, d4] at H
    exact H
  · have e : wholeTxt v = hexTxt (v + 4294967296) ++ Str.ofString "H" := by unfold wholeTxt; rw [if_neg hv]
    rw [e]
    obtain ⟨k1, ⟨c, r, k2, hc⟩, k3, k4⟩ := hexTxt_ok (V := v + 4294967296) (by omega) (by omega)
    generalize hexTxt (v + 4294967296) = ds at k1 k2 k3 k4
    have hd1 : 1 ≤ ds.length := by rw [← len_toList, k2]; simp
    have hlen : (ds ++ Str.ofString "H").length = ds.length + 1 := by rw [Str.length_append]; rfl
    have hs : (ds ++ Str.ofString "H").length ≤ 1000 := by omega
    have hcE : at1 (ds ++ Str.ofString "H") ((ds.length : Int) + 1) = Str.ofString "" := by
      have := at1_end (x := ds ++ Str.ofString "H") (by omega)
      rw [hlen] at this
      exact this
    have hcH : at1 (ds ++ Str.ofString "H") (ds.length : Int) = Str.ofString "H" := by
      rw [at1_list (pre := ds.cps.toList) (c := 72) (post := []) (by rw [toList_app]; rfl) (by rw [len_toList])]
      decide
    have f := dig_facts hc
    have hc2 : at1 (ds ++ Str.ofString "H") 0 = ⟨#[c]⟩ := at1_list (pre := []) (c := c) (post := r ++ [72]) (by rw [toList_app, k2]; rfl) rfl
    have ecut : Txt.slice (ds ++ Str.ofString "H") (some 0) (some (ds.length : Int)) = ds := by
      rw [cut_to (by omega) (by omega), toList_app]
      have : ((ds.length : Int)).toNat = ds.cps.toList.length := by rw [len_toList]; omega
      rw [this, List.take_left, str_of_toList]
    refine law_read_of prog w mean mg mb _ ts ((ds.length : Int) + 1) _ _ (fun _ => rfl) hs hcE fun z tp hne => ?_
    refine take_num_sp prog w mean mg mb z tp _ c _ _ _ hs hc2 (by omega) f.2.2.2.1 f.2.2.1 f.1 fun tb => ?_
    have e9 : dv 16 (ds.cps.toList.map fun (n : Nat) => (n : Int)) = v + 4294967296 := k3
    have hm : ∀ pre post, KStt.codes (Txt.slice (ds ++ Str.ofString "H") (some 0) (some (ds.length : Int))) = pre ++ post → dv 16 pre ≤ 4294967295 := by
      intro pre post q
      rw [ecut] at q
      have := (dv_pre (b := 16) (by decide) k1 q).2
      omega
    have H := numeral_hex_sp prog w mean mg mb z tp (ds ++ Str.ofString "H") (ds.length : Int) tb hs hne (by omega)
      (fun i a b => by
        rw [at1_left a b]
        obtain ⟨c, a1, a2, _⟩ := at1_in a b
        rw [a2]; exact (hexc_facts (k1 c a1)).1) hcH hm (by rw [ecut, k3]; omega)
    rw [ecut, k3] at H
    have e8 : v + 4294967296 - 4294967295 - 1 = v := by omega
    rw [e8] at H
    exact H
theorem join_signs (v : Str) : Txt.join (Str.ofString "") (signs v) = v := by
  have e0 : Str.ofString "" = (⟨#[]⟩ : Str) := by decide
  have : ∀ l : List Nat, Str.join (⟨#[]⟩ : Str) (l.map fun n => (⟨#[n]⟩ : Str)) = ⟨l.toArray⟩ := by
    intro l
    induction l with
    | nil => rfl
    | cons c r ih =>
      cases r with
      | nil => rfl
      | cons d r =>
        rw [List.map_cons, List.map_cons]
        show (⟨#[c]⟩ : Str) ++ ⟨#[]⟩ ++ Str.join (⟨#[]⟩ : Str) ((d :: r).map fun n => (⟨#[n]⟩ : Str)) = _
        rw [ih]
        show Str.mk ((#[c] ++ #[]) ++ (d :: r).toArray) = Str.mk _
        congr 1
        simp
  unfold Txt.join
  rw [StrLaws.glued_eq_join, e0]
  unfold signs
  rw [this, str_of_toList]
theorem pr_one {c : Nat} (h : isPr ⟨#[c]⟩ = true) : c ≠ 34 ∧ c ≠ 10 := by
  unfold isPr at h
  simp only [Bool.and_eq_true, Bool.not_eq_true', bne_iff_ne, ne_eq] at h
  obtain ⟨h1, h2, h3⟩ := h
  refine ⟨fun e => h2 (by rw [e]; decide), fun e => ?_⟩
  rw [e] at h1
  exact absurd h1 (by decide)
theorem len_one {v : Str} (h : v.length = 1) : ∃ c, v = ⟨#[c]⟩ := by
  have h' : v.cps.toList.length = 1 := by rw [len_toList]; exact h
  obtain ⟨c, hc⟩ := List.length_eq_one_iff.mp h'
  exact ⟨c, by rw [← str_of_toList (x := v), hc]⟩
theorem law_read_str (prog : Program) (w : World) (mean : ExcName → Option Value) (mg mb : Str → Option Value) (v : Str) (ts : Tok) (hl : v.length ≤ 900) (hc : ∀ c ∈ v.cps.toList, c < 256) (hq : v.length = 1 ∨ ∀ c ∈ v.cps.toList, c ≠ 34 ∧ c ≠ 10) :
    Sp prog w mean mg mb 460 15 [.str (strTxt v) ts] [] (ReadPost (Str.ofString "string") (fun t => .str v t)) := by
  by_cases hv : v.length = 1 ∧ isPr v = false
  · have e : strTxt v = hexTxt (v.cps.getD 0 0) ++ Str.ofString "X" := by unfold strTxt; rw [if_pos hv]
    rw [e]
    obtain ⟨cc, rfl⟩ := len_one hv.1
    have hcc : cc < 256 := hc cc (by simp)
    have ecc : (((⟨#[cc]⟩ : Str).cps.getD 0 0 : Nat) : Int) = (cc : Int) := rfl
    rw [ecc]
    obtain ⟨k1, ⟨c, r, k2, hc⟩, k3, k4⟩ := hexTxt_ok (V := (cc : Int)) (by omega) (by omega)
    generalize hexTxt (cc : Int) = ds at k1 k2 k3 k4
    have hd1 : 1 ≤ ds.length := by rw [← len_toList, k2]; simp
    have hlen : (ds ++ Str.ofString "X").length = ds.length + 1 := by rw [Str.length_append]; rfl
    have hs : (ds ++ Str.ofString "X").length ≤ 1000 := by omega
    have hcE : at1 (ds ++ Str.ofString "X") ((ds.length : Int) + 1) = Str.ofString "" := by
      have := at1_end (x := ds ++ Str.ofString "X") (by omega)
      rw [hlen] at this
      exact this
    have hcX : at1 (ds ++ Str.ofString "X") (ds.length : Int) = Str.ofString "X" := by
      rw [at1_list (pre := ds.cps.toList) (c := 88) (post := []) (by rw [toList_app]; rfl) (by rw [len_toList])]
      decide
    have f := dig_facts hc
    have hc2 : at1 (ds ++ Str.ofString "X") 0 = ⟨#[c]⟩ := at1_list (pre := []) (c := c) (post := r ++ [88]) (by rw [toList_app, k2]; rfl) rfl
    have ecut : Txt.slice (ds ++ Str.ofString "X") (some 0) (some (ds.length : Int)) = ds := by
      rw [cut_to (by omega) (by omega), toList_app]
      have : ((ds.length : Int)).toNat = ds.cps.toList.length := by rw [len_toList]; omega
      rw [this, List.take_left, str_of_toList]
    refine law_read_of prog w mean mg mb _ ts ((ds.length : Int) + 1) _ _ (fun _ => rfl) hs hcE fun z tp hne => ?_
    refine take_num_sp prog w mean mg mb z tp _ c _ _ _ hs hc2 (by omega) f.2.2.2.1 f.2.2.1 f.1 fun tb => ?_
    have e9 : dv 16 (ds.cps.toList.map fun (n : Nat) => (n : Int)) = (cc : Int) := k3
    have hm : ∀ pre post, KStt.codes (Txt.slice (ds ++ Str.ofString "X") (some 0) (some (ds.length : Int))) = pre ++ post → dv 16 pre ≤ 255 := by
      intro pre post q
      rw [ecut] at q
      have := (dv_pre (b := 16) (by decide) k1 q).2
      omega
    have H := numeral_chr_sp prog w mean mg mb z tp (ds ++ Str.ofString "X") (ds.length : Int) tb hs hne (by omega)
      (fun i a b => by
        rw [at1_left a b]
        obtain ⟨c, a1, a2, _⟩ := at1_in a b
        rw [a2]; exact (hexc_facts (k1 c a1)).1) hcX hm (by rw [ecut, k3]; omega)
    rw [ecut, k3] at H
    have e8 : ((cc : Int)).toNat = cc := by omega
    rw [e8] at H
    exact H
  · have e : strTxt v = Str.ofString "\"" ++ v ++ Str.ofString "\"" := by unfold strTxt; rw [if_neg hv]
    rw [e]
    have hq' : ∀ c ∈ v.cps.toList, c ≠ 34 ∧ c ≠ 10 := by
      rcases hq with h | h
      · obtain ⟨c, rfl⟩ := len_one h
        intro d hd
        have : d = c := by simpa using hd
        rw [this]
        refine pr_one ?_
        cases hp : isPr ⟨#[c]⟩ with
        | true => rfl
        | false => exact absurd ⟨h, hp⟩ hv
      · exact h
    have q0 : Str.ofString "\"" = ⟨#[34]⟩ := by decide
    rw [q0]
    have hlist : ((⟨#[34]⟩ : Str) ++ v ++ ⟨#[34]⟩).cps.toList = 34 :: (v.cps.toList ++ [34]) := by rw [toList_app, toList_app]; simp
    have hlen : ((⟨#[34]⟩ : Str) ++ v ++ ⟨#[34]⟩).length = v.length + 2 := by rw [← len_toList, hlist]; simp; rfl
    generalize (⟨#[34]⟩ : Str) ++ v ++ ⟨#[34]⟩ = src at hlist hlen
    have hs : src.length ≤ 1000 := by omega
    have hcE : at1 src ((v.length : Int) + 1 + 1) = Str.ofString "" := by
      have := at1_end (x := src) (by omega)
      rw [hlen] at this
      have e2 : (((v.length + 2 : Nat)) : Int) = (v.length : Int) + 1 + 1 := by omega
      rw [e2] at this
      exact this
    have hc0 : at1 src 0 = ⟨#[34]⟩ := at1_list (pre := []) (c := 34) (post := v.cps.toList ++ [34]) hlist rfl
    refine law_read_of prog w mean mg mb _ ts ((v.length : Int) + 1 + 1) _ _ (fun _ => rfl) hs hcE fun z tp hne => ?_
    refine take_str_sp prog w mean mg mb z tp _ _ _ _ hs hc0 fun tb => ?_
    have H := string_sp prog w mean mg mb z tp src v tb hs hne hl
      (fun p a b => by
        obtain ⟨c, a1, a2, a3⟩ := at1_in (x := src) (i := p) (by omega) (by omega)
        have hn : p.toNat = (p - 1).toNat + 1 := by omega
        have hlt : (p - 1).toNat < v.cps.toList.length := by rw [len_toList]; omega
        rw [hlist, hn, List.getElem?_cons_succ, List.getElem?_append_left hlt] at a3
        have hm := List.mem_of_getElem? a3
        refine ⟨c, a2, ?_, hc c hm, (hq' c hm).2, (hq' c hm).1⟩
        unfold signs
        rw [List.getElem?_map, a3]; rfl)
      (by
        rw [q0]
        exact at1_list (pre := 34 :: v.cps.toList) (c := 34) (post := []) (by rw [hlist]; rfl) (by simp; rfl))
    rw [join_signs] at H
    exact H
end Mine
namespace Mine
inductive TyDict (fs : Str) (tf : Tok) : Obj → Prop where
  | mk (h0 h1 h2 h3 h4 h5 h6 h7 h8 h9 h10 h11 : Int) (k0 k1 k2 k3 k4 k5 k6 k7 k8 k9 k10 k11 : Tok) (v0 v2 v3 v4 v5 v6 v7 v8 v9 v10 v11 : Value) :
    TyDict fs tf (dictOf [⟨h0, .str (Str.ofString "number") k0, v0⟩, ⟨h1, .str (Str.ofString "form") k1, .str fs tf⟩, ⟨h2, .str (Str.ofString "size") k2, v2⟩, ⟨h3, .str (Str.ofString "base") k3, v3⟩,
      ⟨h4, .str (Str.ofString "length") k4, v4⟩, ⟨h5, .str (Str.ofString "fields") k5, v5⟩, ⟨h6, .str (Str.ofString "level") k6, v6⟩, ⟨h7, .str (Str.ofString "params") k7, v7⟩,
      ⟨h8, .str (Str.ofString "module") k8, v8⟩, ⟨h9, .str (Str.ofString "label") k9, v9⟩, ⟨h10, .str (Str.ofString "hidden") k10, v10⟩, ⟨h11, .str (Str.ofString "exno") k11, v11⟩] 12)
def TyPost (fs : Str) (tf : Tok) (h h' : Heap) (v : Value) : Prop := ∃ (y dy : Addr) (od : Obj), v = .ref y ∧ Gives [] [(y, instObj 399 dy), (dy, od)] h h' ∧ TyDict fs tf od ∧ @LT.lt Nat _ dy y
theorem type_sp (prog : Program) (w : World) (mean : ExcName → Option Value) (mg mb : Str → Option Value) (i0 i2 : Int) (t0 t2 tf : Tok) (fs : Str) : Sp prog w mean mg mb 399 5 [.int i0 t0, .str fs tf, .int i2 t2] [] (TyPost fs tf) := by
  k_dflt (refine sp_class (binds := fun x9 => [(Str.ofString "self", .ref x9), (Str.ofString "number", .int i0 t0), (Str.ofString "form", .str fs tf), (Str.ofString "size", .int i2 t2)]) (fun _ => by k_is) (fun _ => by k_is) (fun _ => by k_is) (fun _ => by k_is) (fun _ => by k_is) (by first | exact fun _ _ _ => BindsTo.of_eq rfl | exact fun _ _ X9 => binds_K X9 rfl (by k_is) rfl rfl rfl) (fun _ => by exact locs rfl) (by exact rfl) (by exact rfl) (by exact rfl) (by decide) ?_)
  intro dp un gd outer A₀ base h₀ g h1 L' xn dn gens drawn toks os Q hKg hO hsz hlt2 hlt F' N' B' X' T' hOwn hdp hun hret
  (try k_lt hlt); k_lt2 hlt2
  (try dsimp only); (try with_reducible show wpAny _ _ _ _ _ _)
  k_with_none
  (repeat' (first | (k_unfold; (try dsimp only)) | (k_end; wrow_close) | (walk1; (try dsimp only)) | (dsimp only; walk1) | (leave1; (try dsimp only)) | fail "no step"))
  exact hret _ _ (end_kept hKg (by assumption)) ⟨_, _, _, rfl, end_gives hKg (by assumption) (by walk_at "M in"), ⟨_, _, _, _, _, _, _, _, _, _, _, _, _, _, _, _, _, _, _, _, _, _, _, _, _, _, _, _, _, _, _, _, _, _, _⟩, hlt2⟩
theorem off_find {x b : Nat} {l : List (Addr × Obj)} (h : Off x l) (hb : b ∈ l.map (·.1)) : @Ne Nat x b := by
  obtain ⟨p, hp, rfl⟩ := List.mem_map.mp hb
  exact h p hp
theorem off_find' {x b : Nat} {l : List (Addr × Obj)} (h : Off x l) (hb : b ∈ l.map (·.1)) : @Ne Nat b x := (off_find h hb).symm
theorem TyPost.el {fs : Str} {tf : Tok} {h h' : Heap} {rest : List (Addr × Obj)} {Fp : Prop} {NP : List (Addr × Obj) → Prop} {K : Value → Prop}
    (H : ∀ (y dy : Addr) (od : Obj), TyDict fs tf od → @LT.lt Nat _ dy y → Fp → NP [(y, instObj 399 dy), (dy, od)] → Off y rest → Off dy rest → K (.ref y)) :
    ∀ v, TyPost fs tf h h' v → Fp → (∀ own', Gives [] own' h h' → NP own' ∧ ∀ p ∈ own', Off p.1 rest) → K v :=
  fun _ ⟨y, dy, od, e, g, D, l⟩ F G => e ▸ H y dy od D l F (G _ g).1 ((G _ g).2 _ (.head _)) ((G _ g).2 _ (.tail _ (.head _)))
def OffN (x : Nat) (l : List Nat) : Prop := ∀ b ∈ l, x ≠ b
def SepN : List Nat → Prop
  | [] => True
  | p :: r => OffN p r ∧ SepN r
theorem offN_nil {x : Nat} : OffN x [] := fun _ h => nomatch h
theorem offN_cons {x b : Nat} {r : List Nat} (h : @Ne Nat x b) (h' : OffN x r) : OffN x (b :: r) := List.forall_mem_cons.mpr ⟨h, h'⟩
theorem sepN_nil : SepN [] := trivial
theorem sepN_cons {p : Nat} {r : List Nat} (h : OffN p r) (h' : SepN r) : SepN (p :: r) := ⟨h, h'⟩
theorem offN_find {x b : Nat} {l : List Nat} (h : OffN x l) (hb : b ∈ l) : @Ne Nat x b := h b hb
theorem offN_find' {x b : Nat} {l : List Nat} (h : OffN x l) (hb : b ∈ l) : @Ne Nat b x := (h b hb).symm
end Mine
local macro_rules | `(tactic| k_ne) => `(tactic| (refine neN ?_; (try dsimp only); first | with_reducible assumption | (refine Ne.symm ?_; with_reducible assumption) | exact offN_find (by with_reducible assumption) (by k_mem) | exact offN_find' (by with_reducible assumption) (by k_mem) | exact off_find (by with_reducible assumption) (by k_mem) | exact off_find' (by with_reducible assumption) (by k_mem) | omega))
namespace Mine
section
variable {prog : Program} {w : World} {A : Around} {E : Value → Shared → Prop} {s : Shared} {h₀ : Heap} {L : Addr} {news : List (Addr × Obj)} {Q : Value → Shared → Prop}
theorem ne_nil_yes {a b : Addr} {vs : List Value} {ns : List Int} {n n' : Nat} (N : News h₀ L s.heap news) (h1 : (a, listOf vs.toArray n) ∈ news) (hi : IntsAre vs ns) (hne : 0 < vs.length) (h2 : (b, listOf #[] n') ∈ news) (hu : A.units + 64 < cLine) (h : Q (.bool true) s) :
    wpAny (model prog w) A (compareOp .NotEq (.ref a) (.ref b)) Q E s := by
  refine ne_intsK (ms := []) (us := []) (News.isList N h1) hi (News.isList N h2) .nil hu ?_
  have : ns ≠ [] := fun e => by subst e; cases hi; simp at hne
  simpa [this] using h
theorem ne_nil_no {a b : Addr} {n n' : Nat} (N : News h₀ L s.heap news) (h1 : (a, listOf #[] n) ∈ news) (h2 : (b, listOf #[] n') ∈ news) (hu : A.units + 64 < cLine) (h : Q (.bool false) s) :
    wpAny (model prog w) A (compareOp .NotEq (.ref a) (.ref b)) Q E s := by
  refine ne_intsK (ms := []) (us := []) (vs := []) (ns := []) (News.isList N h1) .nil (News.isList N h2) .nil hu ?_
  simpa using h
end
end Mine
local macro_rules | `(tactic| walk_at "compareOp NotEq ref ref") => `(tactic| (k_here; k_dflt (refine' ne_nil_yes ?k1 ?k2 ?k3 ?k4 ?k5 ?k6 ?_; (case k1 => k_asm); (case k2 => k_mem); (case k3 => with_reducible assumption); (case k4 => with_reducible assumption); (case k5 => k_mem); (case k6 => walk_at "M units"))))
local macro_rules | `(tactic| walk_at "compareOp NotEq ref ref") => `(tactic| (k_here; k_dflt (refine' ne_nil_no ?k1 ?k2 ?k3 ?k4 ?_; (case k1 => k_asm); (case k2 => k_mem); (case k3 => k_mem); (case k4 => walk_at "M units"))))
namespace Mine
def DrawPost (l : Addr) (k : Int) (vs : List Value) (n : Nat) (h h' : Heap) (v : Value) : Prop := ∃ (us : List Value) (ms : List Int) (n' : Nat) (r : Int) (t : Tok), v = .int r t ∧ 0 ≤ r ∧ r < k ∧ IntsAre us ms ∧ ms.length ≤ 1000 ∧ Gives [(l, listOf vs.toArray n)] [(l, listOf us.toArray n')] h h'
theorem DrawPost.el {l : Addr} {k : Int} {vs : List Value} {n : Nat} {h h' : Heap} {Fp : Prop} {NP : List (Addr × Obj) → Prop} {K : Value → Prop}
    (H : ∀ (us : List Value) (ms : List Int) (n' : Nat) (r : Int) (t : Tok), 0 ≤ r → r < k → IntsAre us ms → ms.length ≤ 1000 → Fp → NP [(l, listOf us.toArray n')] → K (.int r t)) :
    ∀ v, DrawPost l k vs n h h' v → Fp → (∀ own', Gives [(l, listOf vs.toArray n)] own' h h' → NP own') → K v :=
  fun _ ⟨us, ms, n', r, t, e, h1, h2, h3, h4, g⟩ F G => e ▸ H us ms n' r t h1 h2 h3 h4 F (G _ g)
theorem draw_nil (prog : Program) (w : World) (mean : ExcName → Option Value) (mg mb : Str → Option Value) (l : Addr) (n : Nat) (k : Int) (tk : Tok) (hk : 0 < k) (hk2 : k ≤ 1000) : Sp prog w mean mg mb 453 12 [.ref l, .int k tk] [(l, listOf [].toArray n)] (DrawPost l k [] n) := by
  k_dflt (refine sp_body (binds := [(Str.ofString "figures", .ref l), (Str.ofString "limit", .int k tk)]) (fun _ => by k_is) (fun _ => by k_is) (by first | exact fun _ _ => BindsTo.of_eq rfl | exact fun _ X9 => binds_K X9 rfl (by k_is) rfl rfl rfl) (by exact locs rfl) (by exact rfl) (by exact rfl) (by exact rfl) (by decide) ?_)
  intro dp un gd outer A₀ base h₀ g h1 L' gens drawn toks os Q hKg hO F' N' B' X' T' hOwn hsL hdp hun hret hretN
  (try dsimp only); (try with_reducible show wpAny _ _ _ _ _ _)
  k_with_none
  (repeat' (first | (k_unfold; (try dsimp only)) | (k_end; wrow_close) | (walk1; (try dsimp only)) | (dsimp only; walk1) | (leave1; (try dsimp only)) | fail "no step"))
  exact hret _ _ _ (end_kept hKg (by assumption)) ⟨[], [], _, 0, _, rfl, Int.le_refl _, hk, .nil, by simp, end_gives hKg (by assumption) (by walk_at "M in")⟩
theorem draw_cons (prog : Program) (w : World) (mean : ExcName → Option Value) (mg mb : Str → Option Value) (l : Addr) (vs : List Value) (ns : List Int) (n : Nat) (k : Int) (tk : Tok) (hi : IntsAre vs ns) (hl : ns.length ≤ 1000) (hk : 0 < k) (hk2 : k ≤ 1000) (hne : 0 < vs.length) : Sp prog w mean mg mb 453 12 [.ref l, .int k tk] [(l, listOf vs.toArray n)] (DrawPost l k vs n) := by
  have hl2 : vs.length ≤ 1000 := by rw [hi.length]; exact hl
  k_dflt (refine sp_body (binds := [(Str.ofString "figures", .ref l), (Str.ofString "limit", .int k tk)]) (fun _ => by k_is) (fun _ => by k_is) (by first | exact fun _ _ => BindsTo.of_eq rfl | exact fun _ X9 => binds_K X9 rfl (by k_is) rfl rfl rfl) (by exact locs rfl) (by exact rfl) (by exact rfl) (by exact rfl) (by decide) ?_)
  intro dp un gd outer A₀ base h₀ g h1 L' gens drawn toks os Q hKg hO F' N' B' X' T' hOwn hsL hdp hun hret hretN
  (try dsimp only); (try with_reducible show wpAny _ _ _ _ _ _)
  k_with_none
  (repeat' (first | (k_unfold; (try dsimp only)) | (k_end; wrow_close) | (walk1; (try dsimp only)) | (dsimp only; walk1) | (leave1; (try dsimp only)) | fail "no step"))
  have hI9 : IntsAre vs.dropLast ns.dropLast := by with_reducible assumption
  exact hret _ _ _ (end_kept hKg (by assumption)) ⟨_, _, _, _, _, rfl, Int.fmod_nonneg_of_pos _ hk, Int.fmod_lt_of_pos _ hk, hI9, by rw [List.length_dropLast]; omega, end_gives hKg (by assumption) (by walk_at "M in")⟩
theorem draw_sp (prog : Program) (w : World) (mean : ExcName → Option Value) (mg mb : Str → Option Value) (l : Addr) (vs : List Value) (ns : List Int) (n : Nat) (k : Int) (tk : Tok) (hi : IntsAre vs ns) (hl : ns.length ≤ 1000) (hk : 0 < k) (hk2 : k ≤ 1000) : Sp prog w mean mg mb 453 12 [.ref l, .int k tk] [(l, listOf vs.toArray n)] (DrawPost l k vs n) := by
  rcases Nat.eq_zero_or_pos vs.length with h | h
  · have e : vs = [] := List.length_eq_zero_iff.mp h
    subst e
    exact draw_nil prog w mean mg mb l n k tk hk hk2
  · exact draw_cons prog w mean mg mb l vs ns n k tk hi hl hk hk2 h
end Mine
namespace Mine
theorem get_head {name : Str} {h : Int} {k : Tok} {v : Value} {rest : List DictEntry} : getL name (⟨h, .str name k, v⟩ :: rest) = some (some v) := by
  unfold getL
  rw [List.find?_cons_of_pos (by simp [Value.isStr])]
theorem put_head {name : Str} {h0 h : Int} {k : Tok} {key v0 v : Value} {rest : List DictEntry} {n : Nat} : (putL name h key v (⟨h0, .str name k, v0⟩ :: rest), putN name (⟨h0, .str name k, v0⟩ :: rest) n) = (⟨h0, .str name k, v⟩ :: rest, n) := by
  have e : (Value.str name k).isStr name = true := by simp [Value.isStr]
  unfold putL putN
  rw [if_pos e, if_pos (by rw [List.any_cons, e]; rfl)]
abbrev tys (x dx : Addr) (hc : Int) (kc tc : Tok) (c : Int) (rest : List DictEntry) (n : Nat) : List (Addr × Obj) :=
  [(x, instObj 435 dx), (dx, dictOf (⟨hc, .str (Str.ofString "counter") kc, .int c tc⟩ :: rest) n)]
def NewPost (x dx : Addr) (hc : Int) (kc tc : Tok) (c : Int) (rest : List DictEntry) (n : Nat) (fs : Str) (tf : Tok) (h h' : Heap) (v : Value) : Prop :=
  ∃ (y dy : Addr) (od : Obj) (t' : Tok), v = .ref y ∧ Gives (tys x dx hc kc tc c rest n) ([(y, instObj 399 dy), (dy, od)] ++ tys x dx hc kc t' (c + 1) rest n) h h' ∧ TyDict fs tf od ∧ @LT.lt Nat _ dy y ∧ (@Ne Nat y x ∧ @Ne Nat y dx ∧ @Ne Nat dy x ∧ @Ne Nat dy dx)
end Mine
local macro_rules | `(tactic| k_get) => `(tactic| exact get_head)
local macro_rules | `(tactic| walk_at "setAttr ref") => `(tactic| (k_here; k_dflt (refine' set_dict ?k1 ?k2 ?k3 ?k4 ?k5 ?k6 ?k7 ?k8 ?k9 ?k10 ?k11 ?k12 ?k13 ?_; (case k1 => k_asm); (case k2 => k_asm); (case k3 => k_asm); (case k4 => k_inst); (case k5 => exact rfl); (case k6 => k_is); (case k7 => k_is); (case k8 => k_is); (case k9 => k_is); (case k10 => exact (congrArg Option.isSome get_head)); (case k11 => exact put_head); (case k12 => k_upd); (case k13 => (simp only [List.length_cons]; omega)); k_whole; intro h' F' N'; (try k_sweep))))
namespace Mine
theorem new_sp (prog : Program) (w : World) (mean : ExcName → Option Value) (mg mb : Str → Option Value) (x dx : Addr) (hc : Int) (kc tc : Tok) (c : Int) (rest : List DictEntry) (n : Nat) (fs : Str) (tf : Tok) (sz : Int) (ts : Tok) (hr : rest.length ≤ 100) (hne : @Ne Nat x dx) (h0 : 0 ≤ c) (h1 : c ≤ 100) :
    Sp prog w mean mg mb 425 9 [.ref x, .str fs tf, .int sz ts] (tys x dx hc kc tc c rest n) (NewPost x dx hc kc tc c rest n fs tf) := by
  k_dflt (refine sp_body (binds := _) (fun _ => by k_is) (fun _ => by k_is) (by first | exact fun _ _ => BindsTo.of_eq rfl | exact fun _ X9 => binds_K X9 rfl (by k_is) rfl rfl rfl) (by exact locs rfl) (by exact rfl) (by exact rfl) (by exact rfl) (by decide) ?_)
  intro dp un gd outer A₀ base h₀ g h1 L' gens drawn toks os Q hKg hO F' N' B' X' T' hOwn hsL hdp hun hret hretN
  (try dsimp only); (try with_reducible show wpAny _ _ _ _ _ _)
  dsimp only [tys] at N' hOwn
  k_with_none
  k_with "M call" => (refine' Mine.u_new ?_ ?_ ?_ ?_ ?_ ?_  (Mine.type_sp _ _ _ _ _ _ _ _ _ _ _) ?_ ?_ ?_; walk_at "M b"; walk_at "M d"; intro h9 tk9; refine Mine.TyPost.el ?_; intro y9 dy9 od9 D9 l9 F9 N9 Oy9 Od9; cases D9; dsimp only [List.cons_append, List.nil_append] at N9; walk_at "M z")
  (repeat' (first | (k_unfold; (try dsimp only)) | (k_end; wrow_close) | (walk1; (try dsimp only)) | (dsimp only; walk1) | (leave1; (try dsimp only)) | fail "no step"))
  exact hret _ _ _ (end_kept hKg (by assumption)) ⟨_, _, _, _, rfl, end_gives hKg (by assumption) (by walk_at "M in"), ⟨_, _, _, _, _, _, _, _, _, _, _, _, _, _, _, _, _, _, _, _, _, _, _, _, _, _, _, _, _, _, _, _, _, _, _⟩, (by with_reducible assumption), (by k_ne), (by k_ne), (by k_ne), (by k_ne)⟩
theorem off_two {b x y : Addr} {o p : Obj} (h : @Ne Nat b x) (h' : @Ne Nat b y) : b ∉ List.map (fun q : Addr × Obj => q.1) [(x, o), (y, p)] := off_cons h (off_cons h' off_nil)
theorem NewPost.el {x dx : Addr} {hc : Int} {kc tc : Tok} {c : Int} {rst : List DictEntry} {n : Nat} {fs : Str} {tf : Tok} {h h' : Heap} {rest : List (Addr × Obj)} {Fp : Prop} {NP : List (Addr × Obj) → Prop} {K : Value → Prop}
    (H : ∀ (y dy : Addr) (od : Obj) (t' : Tok), TyDict fs tf od → @LT.lt Nat _ dy y → @Ne Nat y x → @Ne Nat y dx → @Ne Nat dy x → @Ne Nat dy dx → Fp → NP ([(y, instObj 399 dy), (dy, od)] ++ tys x dx hc kc t' (c + 1) rst n) → Off y rest → Off dy rest → K (.ref y)) :
    ∀ v, NewPost x dx hc kc tc c rst n fs tf h h' v → Fp → (∀ own', Gives (tys x dx hc kc tc c rst n) own' h h' → NP own' ∧ ∀ p ∈ own', p.1 ∉ (tys x dx hc kc tc c rst n).map (·.1) → Off p.1 rest) → K v :=
  fun _ ⟨y, dy, od, t', e, g, D, l, n1, n2, n3, n4⟩ F G => e ▸ H y dy od t' D l n1 n2 n3 n4 F (G _ g).1 ((G _ g).2 _ (.head _) (off_two n1 n2)) ((G _ g).2 _ (.tail _ (.head _)) (off_two n3 n4))
end Mine
namespace Mine
structure TsZ where
  (x dx yb db yc dc yy dy yi di ym dm : Addr)
  (ob oc oy oi om : Obj)
  (h0 h1 h2 h3 h4 h5 h6 h7 h8 : Int)
  (k0 k1 k2 k3 k4 k5 k6 k7 k8 tb tc ty ti tm : Tok)
  (v1 v7 v8 : Value)
abbrev tsRest (z : TsZ) : List DictEntry :=
  [⟨z.h1, .str (Str.ofString "known") z.k1, z.v1⟩, ⟨z.h2, .str (Str.ofString "boolean") z.k2, .ref z.yb⟩, ⟨z.h3, .str (Str.ofString "char") z.k3, .ref z.yc⟩, ⟨z.h4, .str (Str.ofString "byte") z.k4, .ref z.yy⟩,
    ⟨z.h5, .str (Str.ofString "integer") z.k5, .ref z.yi⟩, ⟨z.h6, .str (Str.ofString "mask") z.k6, .ref z.ym⟩, ⟨z.h7, .str (Str.ofString "nil") z.k7, z.v7⟩, ⟨z.h8, .str (Str.ofString "none") z.k8, z.v8⟩]
abbrev tsDict (z : TsZ) (c : Int) (t : Tok) : Obj := dictOf (⟨z.h0, .str (Str.ofString "counter") z.k0, .int c t⟩ :: tsRest z) 9
abbrev tsLed (z : TsZ) (c : Int) (t : Tok) : List (Addr × Obj) :=
  [(z.x, instObj 435 z.dx), (z.dx, tsDict z c t), (z.ym, instObj 399 z.dm), (z.dm, z.om), (z.yi, instObj 399 z.di), (z.di, z.oi), (z.yy, instObj 399 z.dy), (z.dy, z.oy), (z.yc, instObj 399 z.dc), (z.dc, z.oc), (z.yb, instObj 399 z.db), (z.db, z.ob)]
def TsTy (z : TsZ) : Prop := TyDict (Str.ofString "set") z.tm z.om ∧ TyDict (Str.ofString "integer") z.ti z.oi ∧ TyDict (Str.ofString "byte") z.ty z.oy ∧ TyDict (Str.ofString "char") z.tc z.oc ∧ TyDict (Str.ofString "boolean") z.tb z.ob
abbrev tsAdr (z : TsZ) : List Nat := [z.x, z.dx, z.ym, z.dm, z.yi, z.di, z.yy, z.dy, z.yc, z.dc, z.yb, z.db]
end Mine
local macro_rules | `(tactic| k_offL) => `(tactic| first | exact offN_nil | (refine offN_cons ?a ?b; (case a => k_ne); (case b => k_offL)))
local macro_rules | `(tactic| k_subL) => `(tactic| first | exact sepN_nil | (refine sepN_cons ?a ?b; (case a => k_offL); (case b => k_subL)))
namespace Mine
def TypesPost (h h' : Heap) (v : Value) : Prop := ∃ (z : TsZ) (t : Tok), v = .ref z.x ∧ Gives [] (tsLed z 7 t) h h' ∧ TsTy z ∧ SepN (tsAdr z)
theorem types_sp (prog : Program) (w : World) (mean : ExcName → Option Value) (mg mb : Str → Option Value) : Sp prog w mean mg mb 435 20 [] [] TypesPost := by
  k_dflt (refine sp_class (binds := fun x9 => [(Str.ofString "self", .ref x9)]) (fun _ => by k_is) (fun _ => by k_is) (fun _ => by k_is) (fun _ => by k_is) (fun _ => by k_is) (by first | exact fun _ _ _ => BindsTo.of_eq rfl | exact fun _ _ X9 => binds_K X9 rfl (by k_is) rfl rfl rfl) (fun _ => by exact locs rfl) (by exact rfl) (by exact rfl) (by exact rfl) (by decide) ?_)
  intro dp un gd outer A₀ base h₀ g h1 L' xn dn gens drawn toks os Q hKg hO hsz hlt2 hlt F' N' B' X' T' hOwn hdp hun hret
  (try k_lt hlt); k_lt2 hlt2
  (try dsimp only); (try with_reducible show wpAny _ _ _ _ _ _)
  k_with_none
  k_with "M call" => (refine' Mine.u_cutO ?_ ?_ ?_ ?_ ?_ ?_ ?_ (Mine.new_sp _ _ _ _ _ _ _ _ _ _ _ _ _ _ _ _ _ ?_ ?_ ?_ ?_) ?_ ?_ ?_ ?_; walk_at "M b"; walk_at "M o"; walk_at "M k"; ((simp only [List.length_cons, List.length_nil]); omega); k_ne; omega; omega; walk_at "M d"; intro h9 tk9; refine Mine.NewPost.el ?_; intro y9 dy9 od9 t9 D9 l9 n1 n2 n3 n4 F9 N9 Oy9 Od9; dsimp only [List.cons_append, List.nil_append, tys] at N9 Oy9 Od9; walk_at "M z")
  (repeat' (first | (k_unfold; (try dsimp only)) | (k_end; wrow_close) | (walk1; (try dsimp only)) | (dsimp only; walk1) | (leave1; (try dsimp only)) | fail "no step"))
  refine hret _ _ (end_kept hKg (by assumption)) ⟨⟨_, _, _, _, _, _, _, _, _, _, _, _, _, _, _, _, _, _, _, _, _, _, _, _, _, _, _, _, _, _, _, _, _, _, _, _, _, _, _, _, _, _, _⟩, _, rfl, end_gives hKg (by assumption) (by walk_at "M in"), ⟨by with_reducible assumption, by with_reducible assumption, by with_reducible assumption, by with_reducible assumption, by with_reducible assumption⟩, by (dsimp only [tsAdr]; k_subL)⟩
end Mine
namespace Mine
def TStrPost (z : TsZ) (t : Tok) (h h' : Heap) (v : Value) : Prop :=
  ∃ (y dy : Addr) (od : Obj) (tf t' : Tok), v = .ref y ∧ Gives [(z.x, instObj 435 z.dx), (z.dx, tsDict z 7 t)] ([(y, instObj 399 dy), (dy, od)] ++ [(z.x, instObj 435 z.dx), (z.dx, tsDict z 8 t')]) h h' ∧ TyDict (Str.ofString "string") tf od ∧ @LT.lt Nat _ dy y ∧ (@Ne Nat y z.x ∧ @Ne Nat y z.dx ∧ @Ne Nat dy z.x ∧ @Ne Nat dy z.dx)
theorem TStrPost.el {z : TsZ} {t : Tok} {h h' : Heap} {rest : List (Addr × Obj)} {Fp : Prop} {NP : List (Addr × Obj) → Prop} {K : Value → Prop}
    (H : ∀ (y dy : Addr) (od : Obj) (tf t' : Tok), TyDict (Str.ofString "string") tf od → @LT.lt Nat _ dy y → @Ne Nat y z.x → @Ne Nat y z.dx → @Ne Nat dy z.x → @Ne Nat dy z.dx → Fp → NP ([(y, instObj 399 dy), (dy, od)] ++ [(z.x, instObj 435 z.dx), (z.dx, tsDict z 8 t')]) → Off y rest → Off dy rest → K (.ref y)) :
    ∀ v, TStrPost z t h h' v → Fp → (∀ own', Gives [(z.x, instObj 435 z.dx), (z.dx, tsDict z 7 t)] own' h h' → NP own' ∧ ∀ p ∈ own', p.1 ∉ [(z.x, instObj 435 z.dx), (z.dx, tsDict z 7 t)].map (·.1) → Off p.1 rest) → K v :=
  fun _ ⟨y, dy, od, tf, t', e, g, D, l, n1, n2, n3, n4⟩ F G => e ▸ H y dy od tf t' D l n1 n2 n3 n4 F (G _ g).1 ((G _ g).2 _ (.head _) (off_two n1 n2)) ((G _ g).2 _ (.tail _ (.head _)) (off_two n3 n4))
theorem tstr_sp (prog : Program) (w : World) (mean : ExcName → Option Value) (mg mb : Str → Option Value) (z : TsZ) (t tn : Tok) (n : Int) (hne : @Ne Nat z.x z.dx) :
    Sp prog w mean mg mb 432 14 [.ref z.x, .int n tn] [(z.x, instObj 435 z.dx), (z.dx, tsDict z 7 t)] (TStrPost z t) := by
  k_dflt (refine sp_body (binds := [(Str.ofString "self", .ref z.x), (Str.ofString "length", .int n tn)]) (fun _ => by k_is) (fun _ => by k_is) (by first | exact fun _ _ => BindsTo.of_eq rfl | exact fun _ X9 => binds_K X9 rfl (by k_is) rfl rfl rfl) (by exact locs rfl) (by exact rfl) (by exact rfl) (by exact rfl) (by decide) ?_)
  intro dp un gd outer A₀ base h₀ g h1 L' gens drawn toks os Q hKg hO F' N' B' X' T' hOwn hsL hdp hun hret hretN
  (try dsimp only); (try with_reducible show wpAny _ _ _ _ _ _)
  dsimp only [tsDict] at N' hOwn
  k_with_none
  k_with "M call" => (refine' Mine.u_cutO ?_ ?_ ?_ ?_ ?_ ?_ ?_ (Mine.new_sp _ _ _ _ _ _ _ _ _ _ _ _ _ _ _ _ _ ?_ ?_ ?_ ?_) ?_ ?_ ?_ ?_; walk_at "M b"; walk_at "M o"; walk_at "M k"; ((simp only [List.length_cons, List.length_nil]); omega); k_ne; omega; omega; walk_at "M d"; intro h9 tk9; refine Mine.NewPost.el ?_; intro y9 dy9 od9 t9 D9 l9 n1 n2 n3 n4 F9 N9 Oy9 Od9; dsimp only [List.cons_append, List.nil_append, tys] at N9 Oy9 Od9; walk_at "M z")
  k_with "M stop" => ((with_reducible show wpAny _ _ (exec (.Assign [.Attribute _ (Str.ofString "length") _] _ _) _) _ _ _); refine wait ?_)
  (repeat' (first | (k_unfold; (try dsimp only)) | (k_end; wrow_close) | (walk1; (try dsimp only)) | (dsimp only; walk1) | (leave1; (try dsimp only)) | fail "no step"))
  unfold waitT
  k_with_none
  k_with "M call" => (refine' Mine.u_cutO ?_ ?_ ?_ ?_ ?_ ?_ ?_ (Mine.new_sp _ _ _ _ _ _ _ _ _ _ _ _ _ _ _ _ _ ?_ ?_ ?_ ?_) ?_ ?_ ?_ ?_; walk_at "M b"; walk_at "M o"; walk_at "M k"; ((simp only [List.length_cons, List.length_nil]); omega); k_ne; omega; omega; walk_at "M d"; intro h9 tk9; refine Mine.NewPost.el ?_; intro y9 dy9 od9 t9 D9 l9 n1 n2 n3 n4 F9 N9 Oy9 Od9; dsimp only [List.cons_append, List.nil_append, tys] at N9 Oy9 Od9; walk_at "M z")
  rename TyDict _ _ _ => D8
  cases D8
  (repeat' (first | (k_unfold; (try dsimp only)) | (k_end; wrow_close) | (walk1; (try dsimp only)) | (dsimp only; walk1) | (leave1; (try dsimp only)) | fail "no step"))
  exact hret _ _ _ (end_kept hKg (by assumption)) ⟨_, _, _, _, _, rfl, end_gives hKg (by assumption) (by walk_at "M in"), ⟨_, _, _, _, _, _, _, _, _, _, _, _, _, _, _, _, _, _, _, _, _, _, _, _, _, _, _, _, _, _, _, _, _, _, _⟩, (by with_reducible assumption), (by k_ne), (by k_ne), (by k_ne), (by k_ne)⟩
end Mine
namespace Mine
theorem tup_of_K {h₀ h : Heap} {L ax : Addr} {m : Str → Option Value} {K : Frag} {dd : Option Addr} {n : Nat} {sl : Array (Option Value)} (F : Fr h₀ L h m) (X : K.In h₀) (hk : K.lookup ax = some ⟨.type "tuple", dd, .seq #[] n, sl⟩) : IsTup h ax #[] :=
  ⟨_, F.keep _ _ (X _ _ hk), rfl, _, rfl⟩
section
local macro_rules | `(tactic| walk_at "exec For Name Name cons nil") => `(tactic| (k_here; (rename Fr _ _ _ _ => lF'); (with_unfolding_all refine' For_turns lF' ?_); k_whole))
local macro_rules | `(tactic| walk_at "exec For Name BinOp cons nil") => `(tactic| (k_here; (rename Fr _ _ _ _ => lF'); (with_unfolding_all refine' For_turns lF' ?_); k_whole))
local macro_rules | `(tactic| walk_at "exec For Name BinOp") => `(tactic| (k_here; (rename Fr _ _ _ _ => lF'); (with_unfolding_all refine' For_turns lF' ?_); k_whole))
local macro_rules | `(tactic| walk_at "exec For") => `(tactic| (k_here; (rename Fr _ _ _ _ => lF'); (with_unfolding_all refine' For_turns lF' ?_); k_whole))
local macro_rules | `(tactic| walk_at "call type:list") => `(tactic| (k_here; (with_reducible show wpAny _ _ (call (Value.type _) [Value.ref _]) _ _ _); k_dflt (refine' list_copyKT ?k1 ?k2 ?k3 ?_ ?z; (case k1 => k_asm); (case k2 => k_asm); (case k3 => (refine' tup_of_K ?f1 ?f2 ?f3; (case f1 => k_asm); (case f2 => k_asm); (case f3 => k_is))); (case z => decide)); intro D' c' h' F' N' l1; (try k_lt l1); (try k_sweep)))
structure NmZ where
  (x dx al sc s0 : Addr)
  (oal : Obj)
  (h0 h1 h2 h3 h4 : Int)
  (k0 k1 k2 k3 k4 ta : Tok)
  (vm vn vk : Value)
  (n : Nat)
abbrev nmLed (z : NmZ) (o0 : Obj) : List (Addr × Obj) :=
  [(z.x, instObj 371 z.dx), (z.dx, dictOf [⟨z.h0, .str (Str.ofString "module") z.k0, z.vm⟩, ⟨z.h1, .str (Str.ofString "aliases") z.k1, .ref z.al⟩, ⟨z.h2, .str (Str.ofString "scopes") z.k2, .ref z.sc⟩, ⟨z.h3, .str (Str.ofString "narrowed") z.k3, z.vn⟩, ⟨z.h4, .str (Str.ofString "marks") z.k4, z.vk⟩] 5),
    (z.al, z.oal), (z.sc, listOf #[.ref z.s0] z.n), (z.s0, o0)]
abbrev nmAdr (z : NmZ) : List Nat := [z.x, z.dx, z.al, z.sc, z.s0]
def TabOk (prog : Program) (w : World) (d : Addr) (o : Obj) (kvs : List (Str × Value)) (D : List (PyData × PyData)) : Prop := (d == sysModules) = false ∧ o.IsDictOf (strKind prog w) kvs ∧ PyProof.V.FlatPairs PyData.str kvs D
abbrev alK (z : NmZ) : List (Str × Value) := stored [] (Str.ofString "SYSTEM") (.str (Str.ofString "SYSTEM") z.ta)
abbrev alD : List (PyData × PyData) := PyProof.V.putD (PyData.str (Str.ofString "SYSTEM")) (PyData.str (Str.ofString "SYSTEM")) []
def NamesPost (prog : Program) (w : World) (h h' : Heap) (v : Value) : Prop := ∃ (z : NmZ) (o0 : Obj), v = .ref z.x ∧ Gives [] (nmLed z o0) h h' ∧ TabOk prog w z.al z.oal (alK z) alD ∧ TabOk prog w z.s0 o0 [] [] ∧ SepN (nmAdr z)
theorem names_sp (prog : Program) (w : World) (mean : ExcName → Option Value) (mg mb : Str → Option Value) (tm : Tok) : Sp prog w mean mg mb 371 20 [.str (Str.ofString "M") tm] [] (NamesPost prog w) := by
  k_dflt (refine sp_class (binds := _) (fun _ => by k_is) (fun _ => by k_is) (fun _ => by k_is) (fun _ => by k_is) (fun _ => by k_is) (by first | exact fun _ _ _ => BindsTo.of_eq rfl | exact fun _ _ X9 => binds_K X9 rfl (by k_is) rfl rfl rfl) (fun _ => by exact locs rfl) (by exact rfl) (by exact rfl) (by exact rfl) (by decide) ?_)
  intro dp un gd outer A₀ base h₀ g h1 L' xn dn gens drawn toks os Q hKg hO hsz hlt2 hlt F' N' B' X' T' hOwn hdp hun hret
  (try k_lt hlt); k_lt2 hlt2
  (try dsimp only); (try with_reducible show wpAny _ _ _ _ _ _)
  k_with_none
  (repeat' (first | (k_unfold; (try dsimp only)) | (k_end; wrow_close) | (walk1; (try dsimp only)) | (dsimp only; walk1) | (leave1; (try dsimp only)) | fail "no step"))
  refine hret _ _ (end_kept hKg (by assumption)) ⟨⟨_, _, _, _, _, _, _, _, _, _, _, _, _, _, _, _, _, _, _, _, _⟩, _, rfl, end_gives hKg (by assumption) (by walk_at "M in"), ⟨by with_reducible assumption, by with_reducible assumption, by with_reducible assumption⟩, ⟨by with_reducible assumption, by with_reducible assumption, by with_reducible assumption⟩, by (dsimp only [nmAdr]; k_subL)⟩
end
end Mine
namespace Mine
theorem taken_sp (prog : Program) (w : World) (mean : ExcName → Option Value) (mg mb : Str → Option Value) (z : NmZ) (o0 : Obj) (kvs : List (Str × Value)) (D : List (PyData × PyData)) (name : Str) (t : Tok) (b : Bool) (T : TabOk prog w z.s0 o0 kvs D) (hS : SepN (nmAdr z)) (hb : (PySem.Spec.lookup (.str name) D).isSome = b) :
    SpR prog w mean mg mb 340 20 [.ref z.x, .str name t] (nmLed z o0) (fun v => v = .bool b) := by
  obtain ⟨T1, T2, T3⟩ := T
  simp only [nmAdr, SepN] at hS
  obtain ⟨S1, S2, S3, S4, -, -⟩ := hS
  k_dflt (refine sp_body (binds := [(Str.ofString "self", .ref z.x), (Str.ofString "name", .str name t)]) (fun _ => by k_is) (fun _ => by k_is) (by first | exact fun _ _ => BindsTo.of_eq rfl | exact fun _ X9 => binds_K X9 rfl (by k_is) rfl rfl rfl) (by exact locs rfl) (by exact rfl) (by exact rfl) (by exact rfl) (by decide) ?_)
  intro dp un gd outer A₀ base h₀ g h1 L' gens drawn toks os Q hKg hO F' N' B' X' T' hOwn hsL hdp hun hret hretN
  (try dsimp only); (try with_reducible show wpAny _ _ _ _ _ _)
  dsimp only [nmLed] at N' hOwn
  k_with_none
  (repeat' (first | (k_unfold; (try dsimp only)) | (k_end; wrow_close) | (walk1; (try dsimp only)) | (dsimp only; walk1) | (leave1; (try dsimp only)) | fail "no step"))
  all_goals exact hret _ _ _ (end_kept hKg (by assumption)) ⟨end_read hKg hO (by assumption) (by assumption) (by (dsimp only [nmLed]; walk_at "M in")), by simp_all⟩
theorem modname_sp (prog : Program) (w : World) (mean : ExcName → Option Value) (mg mb : Str → Option Value) (z : NmZ) (o0 : Obj) (t : Tok) (T : TabOk prog w z.al z.oal (alK z) alD) (hS : SepN (nmAdr z)) :
    SpR prog w mean mg mb 347 20 [.ref z.x, .str (Str.ofString "SYSTEM") t] (nmLed z o0) (fun v => ∃ t, v = .str (Str.ofString "SYSTEM") t) := by
  obtain ⟨T1, T2, T3⟩ := T
  simp only [nmAdr, SepN] at hS
  obtain ⟨S1, S2, S3, S4, -, -⟩ := hS
  k_dflt (refine sp_body (binds := [(Str.ofString "self", .ref z.x), (Str.ofString "module", .str (Str.ofString "SYSTEM") t)]) (fun _ => by k_is) (fun _ => by k_is) (by first | exact fun _ _ => BindsTo.of_eq rfl | exact fun _ X9 => binds_K X9 rfl (by k_is) rfl rfl rfl) (by exact locs rfl) (by exact rfl) (by exact rfl) (by exact rfl) (by decide) ?_)
  intro dp un gd outer A₀ base h₀ g h1 L' gens drawn toks os Q hKg hO F' N' B' X' T' hOwn hsL hdp hun hret hretN
  (try dsimp only); (try with_reducible show wpAny _ _ _ _ _ _)
  dsimp only [nmLed] at N' hOwn
  k_with_none
  (repeat' (first | (k_unfold; (try dsimp only)) | (k_end; wrow_close) | (walk1; (try dsimp only)) | (dsimp only; walk1) | (leave1; (try dsimp only)) | fail "no step"))
  exact hret _ _ _ (end_kept hKg (by assumption)) ⟨end_read hKg hO (by assumption) (by assumption) (by (dsimp only [nmLed]; walk_at "M in")), _, rfl⟩
def EnterPost (prog : Program) (w : World) (z : NmZ) (o0 : Obj) (name : Str) (h h' : Heap) (v : Value) : Prop :=
  ∃ (o1 : Obj) (t : Tok), v = .none ∧ Gives (nmLed z o0) (nmLed z o1) h h' ∧ TabOk prog w z.s0 o1 (stored [] name (.int (-1) t)) (PyProof.V.putD (.str name) (.int (-1)) [])
theorem EnterPost.el {prog : Program} {w : World} {z : NmZ} {o0 : Obj} {name : Str} {h h' : Heap} {Fp : Prop} {NP : List (Addr × Obj) → Prop} {K : Value → Prop}
    (H : ∀ (o1 : Obj) (t : Tok), TabOk prog w z.s0 o1 (stored [] name (.int (-1) t)) (PyProof.V.putD (.str name) (.int (-1)) []) → Fp → NP (nmLed z o1) → K .none) :
    ∀ v, EnterPost prog w z o0 name h h' v → Fp → (∀ own', Gives (nmLed z o0) own' h h' → NP own') → K v := fun _ ⟨o1, t, e, g, T⟩ F G => e ▸ H o1 t T F (G _ g)
theorem enter_sp (prog : Program) (w : World) (mean : ExcName → Option Value) (mg mb : Str → Option Value) (z : NmZ) (o0 : Obj) (name : Str) (t tn : Tok) (T : TabOk prog w z.s0 o0 [] []) (hS : SepN (nmAdr z)) :
    Sp prog w mean mg mb 319 20 [.ref z.x, .str name t, .int (-1) tn] (nmLed z o0) (EnterPost prog w z o0 name) := by
  obtain ⟨T1, T2, T3⟩ := T
  simp only [nmAdr, SepN] at hS
  obtain ⟨S1, S2, S3, S4, -, -⟩ := hS
  k_dflt (refine sp_body (binds := [(Str.ofString "self", .ref z.x), (Str.ofString "name", .str name t), (Str.ofString "number", .int (-1) tn)]) (fun _ => by k_is) (fun _ => by k_is) (by first | exact fun _ _ => BindsTo.of_eq rfl | exact fun _ X9 => binds_K X9 rfl (by k_is) rfl rfl rfl) (by exact locs rfl) (by exact rfl) (by exact rfl) (by exact rfl) (by decide) ?_)
  intro dp un gd outer A₀ base h₀ g h1 L' gens drawn toks os Q hKg hO F' N' B' X' T' hOwn hsL hdp hun hret hretN
  (try dsimp only); (try with_reducible show wpAny _ _ _ _ _ _)
  dsimp only [nmLed] at N' hOwn
  k_with_none
  (repeat' (first | (k_unfold; (try dsimp only)) | (k_end; wrow_close) | (walk1; (try dsimp only)) | (dsimp only; walk1) | (leave1; (try dsimp only)) | fail "no step"))
  exact hretN _ _ (end_kept hKg (by assumption)) ⟨_, _, rfl, end_gives hKg (by assumption) (by (dsimp only [nmLed]; walk_at "M in")), T1, by with_reducible assumption, by with_reducible assumption⟩
end Mine
namespace Mine
def truthTxt (b : Bool) (v : Int) : Str := if b = true then (if v = 1 then Str.ofString "(0 = 0)" else Str.ofString "(0 # 0)") else (if v = 1 then Str.ofString "TRUE" else Str.ofString "FALSE")
def sysTxt (name inner : Str) : Str := Str.ofString "SYSTEM" ++ Str.ofString ".VAL(" ++ name ++ Str.ofString ", " ++ inner ++ Str.ofString ")"
abbrev tyLed (y dy : Addr) (od : Obj) : List (Addr × Obj) := [(y, instObj 399 dy), (dy, od)]
theorem str_post {a b : Str} {t : Tok} (h : a = b) : ∃ t', Value.str a t = Value.str b t' := ⟨t, by rw [h]⟩
theorem truth_sp (prog : Program) (w : World) (mean : ExcName → Option Value) (mg mb : Str → Option Value) (z : NmZ) (o0 : Obj) (kvs : List (Str × Value)) (D : List (PyData × PyData)) (v : Int) (tv : Tok) (bT bF : Bool) (T : TabOk prog w z.s0 o0 kvs D) (hS : SepN (nmAdr z))
    (hT : (PySem.Spec.lookup (.str (Str.ofString "TRUE")) D).isSome = bT) (hF : (PySem.Spec.lookup (.str (Str.ofString "FALSE")) D).isSome = bF) :
    SpR prog w mean mg mb 63 30 [.ref z.x, .int v tv] (nmLed z o0) (fun r => ∃ t, r = .str (truthTxt (bT || bF) v) t) := by
  k_dflt (refine sp_body (binds := [(Str.ofString "names", .ref z.x), (Str.ofString "value", .int v tv)]) (fun _ => by k_is) (fun _ => by k_is) (by first | exact fun _ _ => BindsTo.of_eq rfl | exact fun _ X9 => binds_K X9 rfl (by k_is) rfl rfl rfl) (by exact locs rfl) (by exact rfl) (by exact rfl) (by exact rfl) (by decide) ?_)
  intro dp un gd outer A₀ base h₀ g h1 L' gens drawn toks os Q hKg hO F' N' B' X' T' hOwn hsL hdp hun hret hretN
  (try dsimp only); (try with_reducible show wpAny _ _ _ _ _ _)
  dsimp only [nmLed] at N' hOwn
  k_with_none
  k_with "M call" => (refine' Mine.u_read ?_ ?_ ?_ ?_ ?_ ?_ ?_ (Mine.taken_sp _ _ _ _ _ (.mk ..) _ _ _ _ _ _ ?_ ?_ ?_) ?_ ?_ ?_; walk_at "M b"; walk_at "M o"; walk_at "M a"; walk_at "M e"; walk_at "M d"; intro h9 tk9; walk_at "M v"; walk_at "M z")
  (repeat' (first | (k_unfold; (try dsimp only)) | (k_end; wrow_close) | (walk1; (try dsimp only)) | (dsimp only; walk1) | (leave1; (try dsimp only)) | fail "no step"))
  all_goals exact hret _ _ _ (end_kept hKg (by assumption)) ⟨end_read hKg hO (by assumption) (by assumption) (by (dsimp only [nmLed]; walk_at "M in")), str_post (by simp_all [truthTxt])⟩
theorem sysval_sp (prog : Program) (w : World) (mean : ExcName → Option Value) (mg mb : Str → Option Value) (z : NmZ) (o0 : Obj) (name inner : Str) (tn ti : Tok) (hn : name.length ≤ 100) (hi : inner.length ≤ 100) (T : TabOk prog w z.al z.oal (alK z) alD) (hS : SepN (nmAdr z)) :
    SpR prog w mean mg mb 70 30 [.ref z.x, .str name tn, .str inner ti] (nmLed z o0) (fun r => ∃ t, r = .str (sysTxt name inner) t) := by
  k_dflt (refine sp_body (binds := [(Str.ofString "names", .ref z.x), (Str.ofString "name", .str name tn), (Str.ofString "inner", .str inner ti)]) (fun _ => by k_is) (fun _ => by k_is) (by first | exact fun _ _ => BindsTo.of_eq rfl | exact fun _ X9 => binds_K X9 rfl (by k_is) rfl rfl rfl) (by exact locs rfl) (by exact rfl) (by exact rfl) (by exact rfl) (by decide) ?_)
  intro dp un gd outer A₀ base h₀ g h1 L' gens drawn toks os Q hKg hO F' N' B' X' T' hOwn hsL hdp hun hret hretN
  (try dsimp only); (try with_reducible show wpAny _ _ _ _ _ _)
  dsimp only [nmLed] at N' hOwn
  k_with_none
  k_with "M call" => (refine' Mine.u_read ?_ ?_ ?_ ?_ ?_ ?_ ?_ (Mine.modname_sp _ _ _ _ _ (.mk ..) _ _ ?_ ?_) ?_ ?_ ?_; walk_at "M b"; walk_at "M o"; walk_at "M a"; walk_at "M d"; intro h9 tk9; walk_at "M v"; walk_at "M z")
  (repeat' (first | (k_unfold; (try dsimp only)) | (k_end; wrow_close) | (walk1; (try dsimp only)) | (dsimp only; walk1) | (leave1; (try dsimp only)) | fail "no step"))
  exact hret _ _ _ (end_kept hKg (by assumption)) ⟨end_read hKg hO (by assumption) (by assumption) (by (dsimp only [nmLed]; walk_at "M in")), _, rfl⟩
end Mine
namespace Mine
theorem ct_int (prog : Program) (w : World) (mean : ExcName → Option Value) (mg mb : Str → Option Value) (nm : Value) (y dy : Addr) (od : Obj) (tf tv : Tok) (v : Int) (D : TyDict (Str.ofString "integer") tf od) (hv : -2147483648 ≤ v) (hv2 : v < 2147483648) :
    SpR prog w mean mg mb 84 40 [nm, .ref y, .int v tv] (tyLed y dy od) (fun r => ∃ t, r = .str (wholeTxt v) t) := by
  cases D
  k_dflt (refine sp_body (binds := [(Str.ofString "names", nm), (Str.ofString "t", .ref y), (Str.ofString "value", .int v tv)]) (fun _ => by k_is) (fun _ => by k_is) (by first | exact fun _ _ => BindsTo.of_eq rfl | exact fun _ X9 => binds_K X9 rfl (by k_is) rfl rfl rfl) (by exact locs rfl) (by exact rfl) (by exact rfl) (by exact rfl) (by decide) ?_)
  intro dp un gd outer A₀ base h₀ g h1 L' gens drawn toks os Q hKg hO F' N' B' X' T' hOwn hsL hdp hun hret hretN
  (try dsimp only); (try with_reducible show wpAny _ _ _ _ _ _)
  dsimp only [tyLed] at N' hOwn
  k_with_none
  k_with "M call" => (refine' Mine.u_pure ?_ ?_ ?_ ?_ ?_ ?_ (Mine.whole_text_sp _ _ _ _ _ _ _ ?_ ?_) ?_ ?_ ?_; walk_at "M b"; walk_at "M l"; walk_at "M l"; walk_at "M d"; intro t9 h9 tk9 F9 N9; walk_at "M z")
  (repeat' (first | (k_unfold; (try dsimp only)) | (k_end; wrow_close) | (walk1; (try dsimp only)) | (dsimp only; walk1) | (leave1; (try dsimp only)) | fail "no step"))
  exact hret _ _ _ (end_kept hKg (by assumption)) ⟨end_read hKg hO (by assumption) (by assumption) (fun _ q => q), _, rfl⟩
theorem ct_byte (prog : Program) (w : World) (mean : ExcName → Option Value) (mg mb : Str → Option Value) (z : NmZ) (o0 : Obj) (y dy : Addr) (od : Obj) (tf tv : Tok) (v : Int) (D : TyDict (Str.ofString "byte") tf od) (T : TabOk prog w z.al z.oal (alK z) alD) (hS : SepN (nmAdr z)) (hv : 0 ≤ v) (hv2 : v < 256) :
    SpR prog w mean mg mb 84 40 [.ref z.x, .ref y, .int v tv] (tyLed y dy od ++ nmLed z o0) (fun r => ∃ t, r = .str (sysTxt (Str.ofString "BYTE") (Str.ofString (toString v))) t) := by
  have hl9 : (Str.ofString (toString v)).length ≤ 10 := (dec_digits hv (by omega)).2.2.1
  cases D
  k_dflt (refine sp_body (binds := [(Str.ofString "names", .ref z.x), (Str.ofString "t", .ref y), (Str.ofString "value", .int v tv)]) (fun _ => by k_is) (fun _ => by k_is) (by first | exact fun _ _ => BindsTo.of_eq rfl | exact fun _ X9 => binds_K X9 rfl (by k_is) rfl rfl rfl) (by exact locs rfl) (by exact rfl) (by exact rfl) (by exact rfl) (by decide) ?_)
  intro dp un gd outer A₀ base h₀ g h1 L' gens drawn toks os Q hKg hO F' N' B' X' T' hOwn hsL hdp hun hret hretN
  (try dsimp only); (try with_reducible show wpAny _ _ _ _ _ _)
  dsimp only [tyLed, nmLed, List.cons_append, List.nil_append] at N' hOwn
  k_with_none
  k_with "M call" => (refine' Mine.u_read ?_ ?_ ?_ ?_ ?_ ?_ ?_ (Mine.sysval_sp _ _ _ _ _ (.mk ..) _ _ _ _ _ ?_ ?_ ?_ ?_) ?_ ?_ ?_; walk_at "M b"; walk_at "M o"; walk_at "M a"; walk_at "M l"; walk_at "M l"; walk_at "M d"; intro h9 tk9; walk_at "M v"; walk_at "M z")
  (repeat' (first | (k_unfold; (try dsimp only)) | (k_end; wrow_close) | (walk1; (try dsimp only)) | (dsimp only; walk1) | (leave1; (try dsimp only)) | fail "no step"))
  exact hret _ _ _ (end_kept hKg (by assumption)) ⟨end_read hKg hO (by assumption) (by assumption) (by (dsimp only [tyLed, nmLed, List.cons_append, List.nil_append]; walk_at "M in")), _, rfl⟩
theorem ct_char (prog : Program) (w : World) (mean : ExcName → Option Value) (mg mb : Str → Option Value) (nm : Value) (y dy : Addr) (od : Obj) (tf tv : Tok) (v : Int) (D : TyDict (Str.ofString "char") tf od) (hv : 0 ≤ v) (hv2 : v < 256) :
    SpR prog w mean mg mb 84 40 [nm, .ref y, .int v tv] (tyLed y dy od) (fun r => ∃ t, r = .str (strTxt ⟨#[v.toNat]⟩) t) := by
  have hl9 : (⟨#[v.toNat]⟩ : Str).length < 1000 := by show 1 < 1000; decide
  have hc9 : (⟨#[v.toNat]⟩ : Str).cps.getD 0 0 < 4294967296 := by show v.toNat < _; omega
  cases D
  k_dflt (refine sp_body (binds := [(Str.ofString "names", nm), (Str.ofString "t", .ref y), (Str.ofString "value", .int v tv)]) (fun _ => by k_is) (fun _ => by k_is) (by first | exact fun _ _ => BindsTo.of_eq rfl | exact fun _ X9 => binds_K X9 rfl (by k_is) rfl rfl rfl) (by exact locs rfl) (by exact rfl) (by exact rfl) (by exact rfl) (by decide) ?_)
  intro dp un gd outer A₀ base h₀ g h1 L' gens drawn toks os Q hKg hO F' N' B' X' T' hOwn hsL hdp hun hret hretN
  (try dsimp only); (try with_reducible show wpAny _ _ _ _ _ _)
  dsimp only [tyLed] at N' hOwn
  k_with_none
  k_with "M call" => (refine' u_pure ?_ ?_ ?_ ?_ ?_ ?_ (string_text_sp _ _ _ _ _ ⟨#[v.toNat]⟩ _ hl9 hc9) ?_ ?_ ?_; walk_at "M b"; walk_at "M d"; intro t9 h9 tk9 F9 N9; walk_at "M z")
  (repeat' (first | (k_unfold; (try dsimp only)) | (k_end; wrow_close) | (walk1; (try dsimp only)) | (dsimp only; walk1) | (leave1; (try dsimp only)) | fail "no step"))
  exact hret _ _ _ (end_kept hKg (by assumption)) ⟨end_read hKg hO (by assumption) (by assumption) (fun _ q => q), _, rfl⟩
theorem ct_str (prog : Program) (w : World) (mean : ExcName → Option Value) (mg mb : Str → Option Value) (nm : Value) (y dy : Addr) (od : Obj) (tf tv : Tok) (v : Str) (D : TyDict (Str.ofString "string") tf od) (hl : v.length < 1000) (hc : v.cps.getD 0 0 < 4294967296) :
    SpR prog w mean mg mb 84 40 [nm, .ref y, .str v tv] (tyLed y dy od) (fun r => ∃ t, r = .str (strTxt v) t) := by
  cases D
  k_dflt (refine sp_body (binds := [(Str.ofString "names", nm), (Str.ofString "t", .ref y), (Str.ofString "value", .str v tv)]) (fun _ => by k_is) (fun _ => by k_is) (by first | exact fun _ _ => BindsTo.of_eq rfl | exact fun _ X9 => binds_K X9 rfl (by k_is) rfl rfl rfl) (by exact locs rfl) (by exact rfl) (by exact rfl) (by exact rfl) (by decide) ?_)
  intro dp un gd outer A₀ base h₀ g h1 L' gens drawn toks os Q hKg hO F' N' B' X' T' hOwn hsL hdp hun hret hretN
  (try dsimp only); (try with_reducible show wpAny _ _ _ _ _ _)
  dsimp only [tyLed] at N' hOwn
  k_with_none
  k_with "M call" => (refine' Mine.u_pure ?_ ?_ ?_ ?_ ?_ ?_ (Mine.string_text_sp _ _ _ _ _ _ _ ?_ ?_) ?_ ?_ ?_; walk_at "M b"; walk_at "M l"; walk_at "M l"; walk_at "M d"; intro t9 h9 tk9 F9 N9; walk_at "M z")
  (repeat' (first | (k_unfold; (try dsimp only)) | (k_end; wrow_close) | (walk1; (try dsimp only)) | (dsimp only; walk1) | (leave1; (try dsimp only)) | fail "no step"))
  exact hret _ _ _ (end_kept hKg (by assumption)) ⟨end_read hKg hO (by assumption) (by assumption) (fun _ q => q), _, rfl⟩
theorem ct_bool (prog : Program) (w : World) (mean : ExcName → Option Value) (mg mb : Str → Option Value) (z : NmZ) (o0 : Obj) (kvs : List (Str × Value)) (Ds : List (PyData × PyData)) (y dy : Addr) (od : Obj) (tf tv : Tok) (v : Int) (bT bF : Bool) (D : TyDict (Str.ofString "boolean") tf od) (T : TabOk prog w z.s0 o0 kvs Ds) (hS : SepN (nmAdr z))
    (hT : (PySem.Spec.lookup (.str (Str.ofString "TRUE")) Ds).isSome = bT) (hF : (PySem.Spec.lookup (.str (Str.ofString "FALSE")) Ds).isSome = bF) :
    SpR prog w mean mg mb 84 40 [.ref z.x, .ref y, .int v tv] (tyLed y dy od ++ nmLed z o0) (fun r => ∃ t, r = .str (truthTxt (bT || bF) v) t) := by
  cases D
  k_dflt (refine sp_body (binds := [(Str.ofString "names", .ref z.x), (Str.ofString "t", .ref y), (Str.ofString "value", .int v tv)]) (fun _ => by k_is) (fun _ => by k_is) (by first | exact fun _ _ => BindsTo.of_eq rfl | exact fun _ X9 => binds_K X9 rfl (by k_is) rfl rfl rfl) (by exact locs rfl) (by exact rfl) (by exact rfl) (by exact rfl) (by decide) ?_)
  intro dp un gd outer A₀ base h₀ g h1 L' gens drawn toks os Q hKg hO F' N' B' X' T' hOwn hsL hdp hun hret hretN
  (try dsimp only); (try with_reducible show wpAny _ _ _ _ _ _)
  dsimp only [tyLed, nmLed, List.cons_append, List.nil_append] at N' hOwn
  k_with_none
  k_with "M call" => (refine' Mine.u_read ?_ ?_ ?_ ?_ ?_ ?_ ?_ (Mine.truth_sp _ _ _ _ _ (.mk ..) _ _ _ _ _ _ _ ?_ ?_ ?_ ?_) ?_ ?_ ?_; walk_at "M b"; walk_at "M o"; walk_at "M a"; walk_at "M e"; walk_at "M d"; intro h9 tk9; walk_at "M v"; walk_at "M z")
  (repeat' (first | (k_unfold; (try dsimp only)) | (k_end; wrow_close) | (walk1; (try dsimp only)) | (dsimp only; walk1) | (leave1; (try dsimp only)) | fail "no step"))
  exact hret _ _ _ (end_kept hKg (by assumption)) ⟨end_read hKg hO (by assumption) (by assumption) (by (dsimp only [tyLed, nmLed, List.cons_append, List.nil_append]; walk_at "M in")), _, rfl⟩
theorem ct_set (prog : Program) (w : World) (mean : ExcName → Option Value) (mg mb : Str → Option Value) (nm : Value) (y dy : Addr) (od : Obj) (tf tv : Tok) (v : Int) (D : TyDict (Str.ofString "set") tf od) :
    SpR prog w mean mg mb 84 40 [nm, .ref y, .int v tv] (tyLed y dy od) (fun r => ∃ rs t, Runs rs ∧ flat rs = elems v 32 ∧ r = .str (setStr rs) t) := by
  cases D
  k_dflt (refine sp_body (binds := [(Str.ofString "names", nm), (Str.ofString "t", .ref y), (Str.ofString "value", .int v tv)]) (fun _ => by k_is) (fun _ => by k_is) (by first | exact fun _ _ => BindsTo.of_eq rfl | exact fun _ X9 => binds_K X9 rfl (by k_is) rfl rfl rfl) (by exact locs rfl) (by exact rfl) (by exact rfl) (by exact rfl) (by decide) ?_)
  intro dp un gd outer A₀ base h₀ g h1 L' gens drawn toks os Q hKg hO F' N' B' X' T' hOwn hsL hdp hun hret hretN
  (try dsimp only); (try with_reducible show wpAny _ _ _ _ _ _)
  dsimp only [tyLed] at N' hOwn
  k_with_none
  k_with "M call" => (refine' u_cut ?_ ?_ ?_ ?_ ?_ ?_ ?_ (set_text_sp _ _ _ _ _ v _) ?_ ?_ ?_ ?_; walk_at "M b"; walk_at "M o"; walk_at "M k"; walk_at "M d"; intro h9 tk9; refine SetPost.el ?_; intro rs9 t9 r9 f9 F9 N9; dsimp only [List.cons_append, List.nil_append] at N9; walk_at "M z")
  (repeat' (first | (k_unfold; (try dsimp only)) | (k_end; wrow_close) | (walk1; (try dsimp only)) | (dsimp only; walk1) | (leave1; (try dsimp only)) | fail "no step"))
  exact hret _ _ _ (end_kept hKg (by assumption)) ⟨end_read hKg hO (by assumption) (by assumption) (fun _ q => q), _, _, by with_reducible assumption, by with_reducible assumption, rfl⟩
theorem tc_char (prog : Program) (w : World) (mean : ExcName → Option Value) (mg mb : Str → Option Value) (z : NmZ) (o0 : Obj) (kvs : List (Str × Value)) (Ds : List (PyData × PyData)) (y dy : Addr) (od : Obj) (tf tv : Tok) (v : Int) (b : Bool) (D : TyDict (Str.ofString "char") tf od) (T : TabOk prog w z.s0 o0 kvs Ds) (T' : TabOk prog w z.al z.oal (alK z) alD) (hS : SepN (nmAdr z))
    (hb : (PySem.Spec.lookup (.str (Str.ofString "CHR")) Ds).isSome = b) (hv : 0 ≤ v) (hv2 : v < 256) :
    SpR prog w mean mg mb 77 50 [.ref z.x, .ref y, .int v tv] (tyLed y dy od ++ nmLed z o0) (fun r => ∃ t, r = .str (if b = true then sysTxt (Str.ofString "CHAR") (Str.ofString (toString v)) else Str.ofString "CHR(" ++ Str.ofString (toString v) ++ Str.ofString ")") t) := by
  have hl9 : (Str.ofString (toString v)).length ≤ 10 := (dec_digits hv (by omega)).2.2.1
  cases D
  cases b
  all_goals
    k_dflt (refine sp_body (binds := [(Str.ofString "names", .ref z.x), (Str.ofString "t", .ref y), (Str.ofString "value", .int v tv)]) (fun _ => by k_is) (fun _ => by k_is) (by first | exact fun _ _ => BindsTo.of_eq rfl | exact fun _ X9 => binds_K X9 rfl (by k_is) rfl rfl rfl) (by exact locs rfl) (by exact rfl) (by exact rfl) (by exact rfl) (by decide) ?_)
    intro dp un gd outer A₀ base h₀ g h1 L' gens drawn toks os Q hKg hO F' N' B' X' T' hOwn hsL hdp hun hret hretN
    (try dsimp only); (try with_reducible show wpAny _ _ _ _ _ _)
    dsimp only [tyLed, nmLed, List.cons_append, List.nil_append] at N' hOwn
    k_with_none
    k_with "M call" => (refine' Mine.u_read ?_ ?_ ?_ ?_ ?_ ?_ ?_ (Mine.taken_sp _ _ _ _ _ (.mk ..) _ _ _ _ _ _ ?_ ?_ ?_) ?_ ?_ ?_; walk_at "M b"; walk_at "M o"; walk_at "M a"; walk_at "M e"; walk_at "M d"; intro h9 tk9; walk_at "M v"; walk_at "M z")
    k_with "M call" => (refine' Mine.u_read ?_ ?_ ?_ ?_ ?_ ?_ ?_ (Mine.sysval_sp _ _ _ _ _ (.mk ..) _ _ _ _ _ ?_ ?_ ?_ ?_) ?_ ?_ ?_; walk_at "M b"; walk_at "M o"; walk_at "M a"; walk_at "M l"; walk_at "M l"; walk_at "M d"; intro h9 tk9; walk_at "M v"; walk_at "M z")
    (repeat' (first | (k_unfold; (try dsimp only)) | (k_end; wrow_close) | (walk1; (try dsimp only)) | (dsimp only; walk1) | (leave1; (try dsimp only)) | fail "no step"))
    exact hret _ _ _ (end_kept hKg (by assumption)) ⟨end_read hKg hO (by assumption) (by assumption) (by (dsimp only [tyLed, nmLed, List.cons_append, List.nil_append]; walk_at "M in")), str_post (by simp)⟩
end Mine
namespace Mine
abbrev SpL (prog : Program) (w : World) (mean : ExcName → Option Value) (mg mb : Str → Option Value) (f : Addr) (need : Nat) (l : Addr) (items : List Value) (Post : Heap → Heap → Value → Prop) : Prop :=
  ∀ (dp un : Nat) (gd : Option (List Code)) (cn : Str) (cs : Scope) (a : Addr) (ccd : Value) (cl : List (Str × Addr)) (outer : List Env)
    (A₀ : Around) (base h₀ : Heap) (L : Addr) (m : Str → Option Value) (s : Shared) (Q E : Value → Shared → Prop),
    Below A₀ base outer h₀ → Fr h₀ L s.heap m → (hd.heap_1 w.params).In h₀ → News h₀ L s.heap [] → Top top (looseW top [Str.ofString "Names"]) mean mg mb h₀ → cs.kind = .function →
    dp + need < recursionLimit → un + 8 * need < cLine →
    (∀ v h' tk', Kept [] s.heap h' → Post s.heap h' v → Q v { s with heap := h', toks := tk' }) → h₀.IsList l items.toArray →
    wpAny (model prog w) (ktrTop dp un gd cn cs L a ccd cl outer) (call (.ref f) [.ref l]) Q E s
theorem ints_push {h₀ h : Heap} {L l t : Nat} {x : Addr × Obj} {i : Int} {us : List Value} {ms : List Int} {c : Nat} {own : List (Addr × Obj)} (_N : News h₀ L h (x :: (l, listOf (us ++ [Value.int i t]).toArray c) :: own)) (h : IntsAre us ms) : IntsAre (us ++ [Value.int i t]) (ms ++ [i]) :=
  h.append (.cons _ _ .nil)
def FigPost (h h' : Heap) (v : Value) : Prop := ∃ (l : Addr) (us : List Value) (ms : List Int) (n : Nat), v = .ref l ∧ IntsAre us ms ∧ ms.length ≤ 1000 ∧ Gives [] [(l, listOf us.toArray n)] h h'
theorem ints_rev {us : List Value} {ms : List Int} (h : IntsAre us ms) : IntsAre us.reverse ms.reverse := by
  induction h with
  | nil => exact .nil
  | cons n t r ih => rw [List.reverse_cons, List.reverse_cons]; exact ih.append (.cons _ _ .nil)
section
local macro_rules | `(tactic| walk_at "InvEndN") => `(tactic| kst_close)
local macro_rules | `(tactic| walk_at "call builtin:list.reverse") => `(tactic| (k_here; k_dflt (refine' kl_reverse ?F ?N ?e ?U ?z ?_; (case F => k_asm); (case N => k_asm); (case U => k_upd); (case e => exact rfl); (case z => ((simp only [List.toList_toArray]); (rw [PySem.sizeLine_eq]); (rename IntsAre _ (List.take 140 _) => hz9); (have hz8 := hz9.length); (rw [hz8, List.length_take]); omega))); intro h' F' N'))
theorem figures_sp (prog : Program) (w : World) (mean : ExcName → Option Value) (mg mb : Str → Option Value) (l : Addr) (vs : List Value) (ns : List Int) (hi : IntsAre vs ns) (hn : ns.length ≤ 63) : SpL prog w mean mg mb 446 30 l vs FigPost := by
  have hl9 : vs.length ≤ 63 := by rw [hi.length]; exact hn
  intro dp un gd cn cs a ccd cl outer A₀ base h₀ L m s Q E B F X N T hck hdp hun hret hil
  replace hil : s.heap.IsList l vs.toArray := hil.at fun o e => F.keep l o e
  refine wpAny_call ?_
  k_dflt (refine enter_own (by assumption) (by assumption) (by assumption) (by assumption) (by assumption) (by exact rfl) (by exact rfl) (by assumption) (by k_is) (by k_is) (by show dp < _; omega) (BindsTo.of_eq (binds := [(Str.ofString "script", .ref l)]) rfl) (by exact locs rfl) ?_ (by exact rfl) (by exact rfl) (by exact rfl) (by decide))
  intro g L' h1 hKg hGg F' N' B' X' T' hOwn hsL
  clear B F X N T
  replace hil : g.IsList l vs.toArray := hil.at fun o e => hKg l o (fun q => nomatch q) e
  (try dsimp only); (try with_reducible show wpAny _ _ _ _ _ _); (try k_fold)
  k_with_none
  k_with "pyIter ref" => (k_of "cell" => k_state (fun pre found => found.length ≤ 11 * pre.length) "found")
  k_with "M iter" => k_dflt (k_of "lap" => (
    (rename News _ _ _ _ => nE'); (simp only [List.push_toArray] at nE'); (have hI9 := ints_push nE' (by with_reducible assumption))
    (rename Fr _ _ _ _ => lF'); (rename IsRange _ _ _ _ _ _ _ _ => rgX)
    (with_unfolding_all refine' kst_range (σ := Int × Nat × List Value × List Int × Nat) (fun c => (_, _) :: (_, listOf c.2.2.1.toArray c.2.2.2.2) :: kOwn) (fun c => [(Str.ofString "figure", .int c.1 c.2.1)]) (fun c => IntsAre c.2.2.1 c.2.2.2.1) [] (fun pre c => c.2.2.2.1.length ≤ 11 * kPre.length + 1 + pre.length) (_, _, _, _, _) (by rfl) rgX (by decide) (by first | exact rangeSize_nat _ _ | rfl) lF' (by exact nE') (by exact hI9) (by kst_all) (by (simp only [List.length_append, List.length_cons, List.length_nil]; omega)) ?_ ?_)
    (intro kC kPre2 kN2 kT2 kU2 kH2 kTk2 kOwn2 kEq2 kLt2 kOff2 kFacts2 kInv2 kFr2 kNews2; obtain ⟨a2, t2, u2, m2, n2⟩ := kC; (have kMark := kstMark); (try dsimp only [kstB] at kFr2); (dsimp only at kNews2 kFacts2 kInv2); (try dsimp only [List.map_cons, List.map_nil] at kOff2); (try simp only [List.cons_append, List.nil_append] at kNews2); (try simp only [rangeKs_length] at kInv2); (have hL2 := kFacts2.length); (try k_fold))
    rotate_left
    (intro kC kU2 kH2 kTk2 kFacts2 kInv2 kFr2 kNews2; obtain ⟨a2, t2, u2, m2, n2⟩ := kC; (have kMark := kstMark); (try dsimp only [kstB] at kFr2); (dsimp only at kNews2 kFacts2 kInv2); (try dsimp only [List.map_cons, List.map_nil] at kOff2); (try simp only [List.cons_append, List.nil_append] at kNews2); (try simp only [rangeKs_length] at kInv2); (have hL2 := kFacts2.length); (try k_fold))
    rotate_left))
  k_steps
  rename IntsAre _ (List.take 140 _) => hz9
  exact hret _ _ _ (end_kept hKg (by assumption)) ⟨_, _, _, _, rfl, ints_rev hz9, by rw [List.length_reverse, List.length_take]; omega, end_gives hKg (by assumption) (by walk_at "M in")⟩
end
end Mine
namespace Mine
section
open PySem
variable {prog : Program} {w : World} {A : Around} {E : Value → Shared → Prop} {s : Shared} {h₀ : Heap} {L D r : Addr} {m : Str → Option Value} {news : List (Addr × Obj)}
theorem shiftW {I : Addr} {fp wr : List Addr} {G : Array GenState → Array GenState → Prop} {n k0 : Nat} {P : Nat → Value → Prop} {St : Nat → Shared → Prop} (acc0 : Array Value) (W : WalksS prog w A I fp wr G n P St) :
    WalksS prog w A I fp wr G (k0 + n) (fun i v => if i < k0 then acc0[i]? = some v else P (i - k0) v) (fun i s => k0 ≤ i ∧ St (i - k0) s) where
  sub := W.sub
  grefl := W.grefl
  gtrans := W.gtrans
  frame := fun i s h' tk st a b => ⟨st.1, W.frame _ s h' tk st.2 a b⟩
  item := fun i s Q E hi st hQ => W.item (i - k0) s Q E (by have := st.1; omega) st.2 fun v s' hP hst hm => hQ v s' (by rw [if_neg (Nat.not_lt.mpr st.1)]; exact hP) ⟨by have := st.1; omega, by have := st.1; rw [show i + 1 - k0 = i - k0 + 1 by omega]; exact hst⟩ hm
  done := fun s Q E st hQ => W.done s Q E (by have := st.2; rwa [Nat.add_sub_cancel_left] at this) hQ
  self := fun i s Q E st hQ => W.self _ s Q E st.2 hQ
end
section
open PySem PySem.Builtin
variable {prog : Program} {w : World} {A : Around} {E : Value → Shared → Prop} {s : Shared}
theorem ext_range {D r : Addr} {a b : Int} {t u v : Tok} {k c0 : Nat} {us : List Value} {Q : Value → Shared → Prop} (hh : A.handled = none) (hD : s.heap.get? D = some (listOf us.toArray c0)) (hr : IsRange s.heap r a b 1 t u v) (hsm : Builtin.Range.small a b 1 = true)
    (hn : Builtin.Range.rangeSize a b 1 = (k : Int)) (hk : k ≤ 100) (hu : us.length ≤ 1000)
    (h : ∀ h' tk (ws : List Value) (c' : Nat), (∀ b o, b ≠ D → s.heap.get? b = some o → h'.get? b = some o) → h'.get? D = some (listOf ws.toArray c') → ws.length = us.length + k → (∀ j x, ws[j]? = some x → if j < us.length then us[j]? = some x else ∃ t, x = .int (a + ((j - us.length : Nat) : Int) * 1) t) → Q .none { s with heap := h', toks := tk }) :
    wpAny (model prog w) A (call (.builtin "list.extend") [.ref D, .ref r]) Q E s := by
  have hDr : D ≠ r := fun e => by rw [e, hr] at hD; simp at hD
  have hDlt : D < s.heap.objs.size := Heap.lt_size hD
  have hDI : D ≠ s.heap.objs.size := Nat.ne_of_lt hDlt
  have hDf : D ∉ [s.heap.objs.size] := fun hm => hDI (List.mem_singleton.mp hm)
  have W := shiftW (k0 := us.length) us.toArray (Walks.range (prog := prog) (w := w) (A := A.in1) hh s.heap.objs.size a 1 k).toS
  have start : ItemsOf (fun i x => if i < us.length then us.toArray[i]? = some x else ∃ t, x = .int (a + ((i - us.length : Nat) : Int) * 1) t) us.toArray us.length := by
    refine ⟨by simp, fun j x hj => ?_⟩
    have hlt : j < us.length := by
      have := (Array.getElem?_eq_some_iff.mp hj).1
      simpa using this
    show (if j < us.length then us.toArray[j]? = some x else _)
    rw [if_pos hlt]; exact hj
  have key : ∀ (hp : Heap) (c1 tk : Nat), IsRangeIter hp s.heap.objs.size (a + ((0 : Nat) : Int) * 1) ((k : Int) - ((0 : Nat) : Int)) 1 → (∀ b o, b ≠ D → s.heap.get? b = some o → hp.get? b = some o) →
      hp.get? D = some (listOf us.toArray c1) → codeAny (model prog w) A (.builtin "list.extend.loop" ⟨[.ref D, .ref s.heap.objs.size, .none], []⟩) (wants Q E) { s with heap := hp, toks := tk } := by
    intro hp c1 tk hit hkp hS
    refine codeAny_extend_loopS W (by rw [sizeLine_eq]; omega) D hDf .none k us.length _ us.toArray c1 (by omega) (by omega) ⟨Nat.le_refl _, by rw [Nat.sub_self]; exact hit⟩ hS start fun s' acc' c' hm hS' hacc => ?_
    rw [Moved.eq_with hm]
    have e : listOf acc'.toList.toArray c' = ({ cls := .type "list", dict := none, data := .seq acc' c', slots := #[] } : Obj) := by simp
    refine h s'.heap s'.toks acc'.toList c' (fun b o hb e => hm.heap b o (fun hmem => ?_) (hkp b o hb e)) (by rw [e]; exact hS') (by rw [Array.length_toList]; exact hacc.1) (fun j x hj => ?_)
    · rcases List.mem_cons.mp hmem with e' | hmem
      · exact hb e'
      · exact absurd (Heap.lt_size e) (by rw [List.mem_singleton.mp hmem]; exact Nat.lt_irrefl _)
    · have := hacc.2 j x (by simpa using hj)
      simpa using this
  refine wpAny_call (codeAny_call_builtin PySem.F.slot_list_extend.plain PySem.F.entry_list_extend (PySem.F.slot_list_extend.check _ _ _ _ _ _ _ _ ⟨_, hD, rfl⟩ (PySem.F.args_list_extend_2 _ _) ?_))
  show wpAny _ A.in1 (Builtin.List.listExtendWith (.ref D) (.ref r) .none) _ _ s
  unfold Builtin.List.listExtendWith
  refine wpAny_bind (wpAny_typeOf (T := "range") ⟨_, hr, rfl⟩ ?_)
  have h1 : Builtin.List.listSameRef (.ref D) (.ref r) = false := by simp [Builtin.List.listSameRef, hDr]
  have h2 : (Value.type "range" == Value.type "list") = false := by decide
  have h3 : (Value.type "range" == Value.type "tuple") = false := by decide
  simp only [h1, h2, h3, Bool.or_false, Bool.false_eq_true, if_false]
  refine wpAny_bind (wpAny_pyIter_range hr hsm ?_)
  refine wpAny_bind (wpAny_holding (wpAny_hint_range (n := k) (Heap.get?_push_of_some _ hr) hn (by omega) ?_))
  have hit : IsRangeIter (s.heap.push { cls := .type "range_iterator", data := .fields #[rawInt a, rawInt (Builtin.Range.rangeSize a b 1), rawInt 1] }) s.heap.objs.size (a + ((0 : Nat) : Int) * 1) ((k : Int) - ((0 : Nat) : Int)) 1 := by
    show IsRangeIter _ _ _ _ _; rw [hn]; simpa using Heap.get?_push_size _ rfl
  have hS1 := Heap.get?_push_of_some { cls := .type "range_iterator", data := .fields #[rawInt a, rawInt (Builtin.Range.rangeSize a b 1), rawInt 1] } hD
  refine wpAny_ite_split (fun _ => ?_) (fun _ => wpAny_pure ⟨plainId_quiet F.plain_extend_loop _, key _ c0 _ hit (fun b o _ e => Heap.get?_push_of_some _ e) hS1⟩)
  refine wpAny_bind (wpAny_rule ?_)
  refine wpAny_bind ?_
  show wpAny _ _ (updateSeq D (·.push .none) >>= fun _ => updateSeq D (·.pop)) _ _ _
  have z0 : sizeLine = 16777216 := by decide
  have z1 : us.toArray.size ≤ sizeLine := by rw [sizeLine_eq, List.size_toArray]; omega
  have z2 : (us.toArray.push Value.none).size ≤ sizeLine := by rw [sizeLine_eq, Array.size_push, List.size_toArray]; omega
  refine wpAny_bind (wpAny_updateSeq (hz := z1) (_hz' := by omega) hS1 rfl ?_)
  have hS2 := Heap.get?_update_self (Obj.mapSeq (·.push Value.none)) hS1 rfl
  refine wpAny_updateSeq (hz := z2) (_hz' := by rw [Array.size_pop, Array.size_push, List.size_toArray, sizeLine_eq]; omega) hS2 rfl ?_
  have hS3 := Heap.get?_update_self (Obj.mapSeq (·.pop)) hS2 rfl
  refine wpAny_pure ⟨plainId_quiet F.plain_extend_loop _, key _ (c0 + 1 + 1) _ ?_ (fun b o hb e => ?_) ?_⟩
  · exact (Heap.get?_update_other _ _ hDI).trans ((Heap.get?_update_other _ _ hDI).trans hit)
  · exact (Heap.get?_update_other _ _ (Ne.symm hb)).trans ((Heap.get?_update_other _ _ (Ne.symm hb)).trans (Heap.get?_push_of_some _ e))
  · rw [hS3]; simp [Obj.mapSeq]
end
end Mine
namespace Mine
section
open PySem.StrLaws PySem.Builtin PySem.Builtin.Str
def gl (s1 s2 : Nat) : List Str → List Nat
  | [] => []
  | [y] => y.cps.toList
  | y :: z :: r => y.cps.toList ++ s1 :: s2 :: gl s1 s2 (z :: r)
theorem join_gl (s1 s2 : Nat) : ∀ ys : List Str, (Str.join ⟨#[s1, s2]⟩ ys).cps.toList = gl s1 s2 ys
  | [] => by show (Str.empty).cps.toList = _; rfl
  | [y] => rfl
  | y :: z :: r => by
    show (y ++ ⟨#[s1, s2]⟩ ++ Str.join ⟨#[s1, s2]⟩ (z :: r)).cps.toList = _
    rw [toList_app, toList_app, join_gl s1 s2 (z :: r)]
    show _ ++ [s1, s2] ++ _ = y.cps.toList ++ s1 :: s2 :: gl s1 s2 (z :: r)
    simp
theorem gl_len (s1 s2 : Nat) : ∀ (z : Str) (r : List Str), z.length ≤ (gl s1 s2 (z :: r)).length
  | z, [] => by show _ ≤ z.cps.toList.length; rw [len_toList]; omega
  | z, y :: r => by show _ ≤ (z.cps.toList ++ s1 :: s2 :: gl s1 s2 (y :: r)).length; rw [List.length_append, len_toList]; omega
theorem at_two {x : Str} {s1 s2 k : Nat} : At x ⟨#[s1, s2]⟩ x.length k ↔ x.cps.toList[k]? = some s1 ∧ x.cps.toList[k + 1]? = some s2 := by
  unfold At
  rw [subAt_eq]
  have hl : (⟨#[s1, s2]⟩ : Str).length = 2 := rfl
  have ht : (⟨#[s1, s2]⟩ : Str).cps.toList = [s1, s2] := rfl
  rw [hl, ht, beq_iff_eq]
  have e : ∀ l : List Nat, (l.take 2 = [s1, s2]) ↔ (l[0]? = some s1 ∧ l[1]? = some s2) := by
    intro l
    match l with
    | [] => simp
    | [a] => simp
    | a :: b :: r => simp
  rw [e]
  simp only [List.getElem?_drop, Nat.add_zero]
  constructor
  · exact fun h => h.2
  · intro h
    refine ⟨?_, h⟩
    have := (List.getElem?_eq_some_iff.mp h.2).1
    rw [len_toList] at this
    omega
theorem parts_gl {x : Str} {s1 s2 : Nat} : ∀ (ys : List Str) (y : Str) (a : Nat) (cuts : List Nat) (f : Nat), a ≤ x.length → x.cps.toList.drop a = gl s1 s2 (y :: ys) → (∀ z ∈ y :: ys, s1 ∉ z.cps.toList) →
    ChainG x ⟨#[s1, s2]⟩ x.length a cuts f → (∀ k, f ≤ k → ¬ At x ⟨#[s1, s2]⟩ x.length k) → partsFrom x 2 a cuts = y :: ys := by
  intro ys
  have get : ∀ {a : Nat} {l : List Nat} (j : Nat), x.cps.toList.drop a = l → x.cps.toList[a + j]? = l[j]? := fun j h => by rw [← h, List.getElem?_drop]
  have none_in : ∀ {a : Nat} {l : List Nat} {y : Str} {r : List Nat}, x.cps.toList.drop a = y.cps.toList ++ r → s1 ∉ y.cps.toList → ∀ k, a ≤ k → k < a + y.length → ¬ At x ⟨#[s1, s2]⟩ x.length k := by
    intro a l y r h hn k h1 h2 hA
    have g := get (k - a) h
    rw [Nat.add_sub_cancel' h1, (at_two.mp hA).1, List.getElem?_append_left (by rw [len_toList]; omega)] at g
    exact hn (List.mem_of_getElem? g.symm)
  induction ys with
  | nil =>
    intro y a cuts f ha h hfree hG hn
    have h' : x.cps.toList.drop a = y.cps.toList := h
    have hlen : x.length = a + y.length := by
      have := congrArg List.length h'
      rw [List.length_drop, len_toList, len_toList] at this
      omega
    have no : ∀ k, a ≤ k → ¬ At x ⟨#[s1, s2]⟩ x.length k := fun k h1 hA => by
      rcases Nat.lt_or_ge k (a + y.length) with q | q
      · exact none_in (l := []) (r := []) (by rw [h', List.append_nil]) (hfree y (.head _)) k h1 q hA
      · have := hA.1
        have hl : (⟨#[s1, s2]⟩ : Str).length = 2 := rfl
        omega
    cases cuts with
    | nil =>
      show [strSub x a x.length] = [y]
      congr 1
      have e : (strSub x a x.length).cps.toList = y.cps.toList := by
        rw [strSub_toList, h', List.take_of_length_le (by rw [len_toList]; omega)]
      rw [← str_of_toList (x := strSub x a x.length), e, str_of_toList]
    | cons c r => exact absurd hG.2.1 (no c hG.1)
  | cons z r ih =>
    intro y a cuts f ha h hfree hG hn
    have h' : x.cps.toList.drop a = y.cps.toList ++ s1 :: s2 :: gl s1 s2 (z :: r) := h
    have hat : At x ⟨#[s1, s2]⟩ x.length (a + y.length) := by
      refine at_two.mpr ⟨?_, ?_⟩
      · rw [get y.length h', List.getElem?_append_right (by rw [len_toList]; omega), len_toList]; simp
      · rw [Nat.add_assoc, get (y.length + 1) h', List.getElem?_append_right (by rw [len_toList]; omega), len_toList]; simp
    have no := none_in (l := []) h' (hfree y (.head _))
    cases cuts with
    | nil =>
      have e : f = a := hG
      exact absurd hat (hn _ (by omega))
    | cons c cs =>
      obtain ⟨g1, g2, g3, g4⟩ := hG
      have hc : c = a + y.length := by
        rcases Nat.lt_trichotomy c (a + y.length) with q | q | q
        · exact absurd g2 (no c g1 q)
        · exact q
        · exact absurd hat (g3 _ (by omega) q)
      subst hc
      show strSub x a (a + y.length) :: partsFrom x 2 (a + y.length + 2) cs = y :: z :: r
      have hd : x.cps.toList.drop (a + y.length + 2) = gl s1 s2 (z :: r) := by
        have e3 : x.cps.toList.drop (a + (y.length + 2)) = (x.cps.toList.drop a).drop (y.length + 2) := by rw [List.drop_drop]
        rw [Nat.add_assoc, e3, h', List.drop_append, len_toList]
        rw [List.drop_eq_nil_of_le (by rw [len_toList]; omega)]
        have : y.length + 2 - y.length = 2 := by omega
        rw [this]; rfl
      have h2 : (⟨#[s1, s2]⟩ : Str).length = 2 := rfl
      have hle := hat.1
      rw [h2] at hle g4
      rw [ih z _ cs f hle hd (fun q hq => hfree q (.tail _ hq)) g4 hn]
      congr 1
      have e : (strSub x a (a + y.length)).cps.toList = y.cps.toList := by
        rw [strSub_toList, h', Nat.add_sub_cancel_left, ← len_toList, List.take_left]
      rw [← str_of_toList (x := strSub x a (a + y.length)), e, str_of_toList]
theorem split_gl {x : Str} {s1 s2 : Nat} {y : Str} {ys : List Str} (h1 : s1 < 256) (h2 : s2 < 256) (h : x.cps.toList = gl s1 s2 (y :: ys)) (hf : ∀ z ∈ y :: ys, s1 ∉ z.cps.toList) : Txt.split x ⟨#[s1, s2]⟩ = y :: ys := by
  obtain ⟨f, hG, hn⟩ := occ_tight x ⟨#[s1, s2]⟩ (by show 1 ≤ 2; decide)
  have main := fun cuts (e : occurrences x ⟨#[s1, s2]⟩ 0 x.length (x.length + 1) = cuts) => parts_gl ys y 0 cuts f (Nat.zero_le _) (by rw [List.drop_zero]; exact h) hf (e ▸ hG) hn
  have kd : PySem.Builtin.Str.strKind (⟨#[s1, s2]⟩ : Str) = 1 := by unfold PySem.Builtin.Str.strKind; rw [if_pos]; simp [h1, h2]
  have kx : 1 ≤ PySem.Builtin.Str.strKind x := by unfold PySem.Builtin.Str.strKind; split <;> (try split) <;> omega
  unfold Txt.split
  split
  · rename_i hc
    rw [Bool.or_eq_true, decide_eq_true_eq, decide_eq_true_eq] at hc
    have hlt : x.length < 2 := by
      rcases hc with q | q
      · exact q
      · rw [kd] at q; omega
    cases ys with
    | nil =>
      have e : x.cps.toList = y.cps.toList := h
      congr 1
      rw [← str_of_toList (x := x), e, str_of_toList]
    | cons z r =>
      have := congrArg List.length h
      rw [len_toList] at this
      show _ = _
      have e : (gl s1 s2 (y :: z :: r)).length = (y.cps.toList ++ s1 :: s2 :: gl s1 s2 (z :: r)).length := rfl
      rw [e, List.length_append] at this
      simp at this
      omega
  · split
    · rename_i he
      have e0 : occurrences x ⟨#[s1, s2]⟩ 0 x.length (x.length + 1) = [] := List.isEmpty_iff.mp he
      rw [← main [] e0]
      show [x] = [strSub x 0 x.length]
      rw [sub_whole]
    · rw [partsBetween_eq]
      exact main _ rfl
end
end Mine
namespace Mine
abbrev numT (v : Int) : Str := Str.ofString (toString v)
theorem num_chars {v : Int} (h0 : 0 ≤ v) (h1 : v < 32) : ∀ c ∈ (numT v).cps.toList, 48 ≤ c ∧ c ≤ 57 := (dec_digits h0 (by omega)).1
theorem dots_is : Str.ofString ".." = ⟨#[46, 46]⟩ := by decide
theorem comma_is : Str.ofString ", " = ⟨#[44, 32]⟩ := by decide
def RunOk (r : Int × Int) : Prop := 0 ≤ r.1 ∧ r.1 ≤ r.2 ∧ r.2 < 32
theorem rtxt_one {r : Int × Int} (h : RunOk r) (e : r.1 = r.2) : rtxt r = numT r.1 ∧ Txt.split (numT r.1) (Str.ofString "..") = [numT r.1] := by
  refine ⟨by unfold rtxt; rw [if_pos e], ?_⟩
  rw [dots_is]
  refine split_gl (by decide) (by decide) rfl fun z hz => ?_
  rw [List.mem_singleton.mp hz]
  intro hm
  have := num_chars h.1 (by have := h.2; omega) 46 hm
  omega
theorem rtxt_two {r : Int × Int} (h : RunOk r) (e : r.1 ≠ r.2) : rtxt r = numT r.1 ++ Str.ofString ".." ++ numT r.2 ∧ Txt.split (numT r.1 ++ Str.ofString ".." ++ numT r.2) (Str.ofString "..") = [numT r.1, numT r.2] := by
  refine ⟨by unfold rtxt; rw [if_neg e], ?_⟩
  rw [dots_is]
  refine split_gl (by decide) (by decide) ?_ fun z hz => ?_
  · rw [toList_app, toList_app]
    show _ ++ [46, 46] ++ (numT r.2).cps.toList = _ ++ 46 :: 46 :: (numT r.2).cps.toList
    simp
  · intro hm
    rcases List.mem_cons.mp hz with e1 | hz
    · subst e1
      have := num_chars h.1 (by have := h.2; omega) 46 hm
      omega
    · rw [List.mem_singleton.mp hz] at hm
      have := num_chars (v := r.2) (by have := h.2; have := h.1; omega) (by have := h.2; omega) 46 hm
      omega
theorem rtxt_free {r : Int × Int} (h : RunOk r) : 44 ∉ (rtxt r).cps.toList := by
  intro hm
  have h2 : 0 ≤ r.2 ∧ r.2 < 32 ∧ r.1 < 32 := by have := h.1; have := h.2; omega
  unfold rtxt at hm
  split at hm
  · have := num_chars h.1 h2.2.2 44 hm; omega
  · rw [toList_app, toList_app, dots_is] at hm
    rcases List.mem_append.mp hm with hm | hm
    · rcases List.mem_append.mp hm with hm | hm
      · have := num_chars h.1 h2.2.2 44 hm; omega
      · simp at hm
    · have := num_chars h2.1 h2.2.1 44 hm; omega
theorem sub_join (ys : List Str) : Txt.join (Str.ofString ", ") ys = Str.join ⟨#[44, 32]⟩ ys := by
  unfold Txt.join
  rw [StrLaws.glued_eq_join, comma_is]
theorem pieces {rs : List (Int × Int)} (h : ∀ r ∈ rs, RunOk r) (hne : rs ≠ []) : Txt.split (Txt.join (Str.ofString ", ") (rs.map rtxt)) (Str.ofString ", ") = rs.map rtxt := by
  cases rs with
  | nil => exact absurd rfl hne
  | cons r rest =>
    rw [sub_join, comma_is, List.map_cons]
    refine split_gl (by decide) (by decide) (join_gl 44 32 _) fun z hz => ?_
    rw [← List.map_cons] at hz
    obtain ⟨q, hq, rfl⟩ := List.mem_map.mp hz
    exact rtxt_free (h q hq)
theorem set_list (J : Str) : (Str.ofString "{" ++ J ++ Str.ofString "}").cps.toList = 123 :: (J.cps.toList ++ [125]) := by
  rw [toList_app, toList_app]
  show [123] ++ _ ++ [125] = _
  simp
theorem set_len (J : Str) : (Str.ofString "{" ++ J ++ Str.ofString "}").length = J.length + 2 := by
  rw [← len_toList, set_list]; simp; rfl
theorem set_first (J : Str) : Txt.item (Str.ofString "{" ++ J ++ Str.ofString "}") 0 = Str.ofString "{" := by
  rw [str_eta (set_list J)]; decide
theorem set_last (J : Str) : Txt.item (Str.ofString "{" ++ J ++ Str.ofString "}") (-1) = Str.ofString "}" := by
  have hl := set_len J
  have hg : (Str.ofString "{" ++ J ++ Str.ofString "}").cps.toList[J.length + 1]? = some 125 := by
    rw [set_list, List.getElem?_cons_succ, List.getElem?_append_right (by rw [len_toList]; omega), len_toList]; simp
  have hlt := (List.getElem?_eq_some_iff.mp hg).1
  generalize Str.ofString "{" ++ J ++ Str.ofString "}" = x at hl hg hlt
  have e : Str.ofString "}" = ⟨#[125]⟩ := by decide
  rw [e]
  unfold Txt.item Txt.charAt
  have es : seqIndex? (-1) x.length = some (J.length + 1) := by
    have q : (-1 : Int) + ((J.length + 2 : Nat) : Int) = ((J.length + 1 : Nat) : Int) := by omega
    unfold seqIndex?
    rw [hl]
    simp only [show ((-1 : Int) < 0) = True from by simp, if_true, q]
    rw [if_pos (by simp; omega)]
    rfl
  rw [es]
  have hg' : x.cps[J.length + 1]? = some 125 := by rw [← Array.getElem?_toList]; exact hg
  simp [hg']
theorem set_inner (J : Str) : Txt.slice (Str.ofString "{" ++ J ++ Str.ofString "}") (some 1) (some (-1)) = J := by
  have hl := set_len J
  have hs := set_list J
  generalize Str.ofString "{" ++ J ++ Str.ofString "}" = x at hl hs
  have e : Txt.slice x (some 1) (some (-1)) = Txt.slice x (some 1) (some ((J.length : Int) + 1)) := by
    have e1 : Builtin.Str.strSliceIndices (some (1 : Int)) (some (-1 : Int)) 1 x.length = Builtin.Str.strSliceIndices (some (1 : Int)) (some ((J.length : Int) + 1)) 1 x.length := by
      have h1 : ¬ ((J.length : Int) + 1 < 0) := by omega
      simp only [Builtin.Str.strSliceIndices, hl, h1, if_false]
      congr 1
      simp
      omega
    unfold Txt.slice
    rw [e1]
  rw [e, eq_of_beq (slice_closesL (x := x) (i := 1) (j := (J.length : Int) + 1) (by decide) (by omega) (by rw [hl]; omega)), hs]
  have e2 : ((J.length : Int) + 1 - 1).toNat = J.length := by omega
  rw [e2]
  show (⟨((J.cps.toList ++ [125]).take J.length).toArray⟩ : Str) = J
  rw [← len_toList, List.take_left, str_of_toList]
theorem set_none (J : Str) : (J == Str.ofString "") = decide (J.cps.toList = []) := by
  have e : Str.ofString "" = ⟨#[]⟩ := by decide
  rw [e]
  by_cases h : J.cps.toList = []
  · have : J = ⟨#[]⟩ := by rw [← str_of_toList (x := J), h]
    subst this; simp
  · rw [decide_eq_false h]
    exact beq_eq_false_iff_ne.mpr fun e => h (by rw [e])
theorem runs_len {rs : List (Int × Int)} {mk : Int} (h : ∀ r ∈ rs, RunOk r) (f : flat rs = elems mk 32) : rs.length ≤ 32 := by
  have h1 : ∀ l : List (Int × Int), (∀ r ∈ l, RunOk r) → l.length ≤ (flat l).length := by
    intro l
    induction l with
    | nil => intro _; exact Nat.le_refl _
    | cons r l ih =>
      intro hr
      have := ih fun q hq => hr q (.tail _ hq)
      have h0 := hr r (.head _)
      unfold flat at this ⊢
      rw [List.flatMap_cons, List.length_append, List.length_cons]
      have : 1 ≤ (intsUp r.1 r.2).length := by unfold intsUp; rw [List.length_map, List.length_range]; have := h0.2.1; omega
      omega
  have h2 := h1 rs h
  rw [f] at h2
  have h3 : (elems mk 32).length ≤ 32 := by
    unfold elems
    refine Nat.le_trans (List.length_filter_le _ _) ?_
    simp
  omega
end Mine
namespace Mine
section
variable {prog : Program} {w : World} {A : Around} {E : Value → Shared → Prop} {s : Shared} {env : Env} {h₀ : Heap} {x : Str} {body : List Stmt} {Q : Flow → Shared → Prop}
theorem iter_vals {σ : Type} {l : Addr} {vs : List Value} {nn : Nat} {m₀ : Str → Option Value} (Led : σ → List (Addr × Obj)) (ps : σ → List (Str × Value)) (Facts : σ → Prop) (stored : List Str) (P : List Int → σ → Prop) (c₀ : σ)
    (hh : A.handled = none) (F : Fr h₀ env.locals s.heap m₀) (N : News h₀ env.locals s.heap ((l, listOf vs.toArray nn) :: Led c₀)) (hne : ∀ p ∈ Led c₀, p.1 ≠ l) (hf : Facts c₀) (hk : ∀ p ∈ ps c₀, m₀ p.1 = some p.2) (hp : P [] c₀)
    (turn : ∀ (c : σ) (pre : List Int) (v : Value) (u : Str → Option Value) h tk own, vs[pre.length]? = some v → pre.length < vs.length → OwnOff own ((Led c₀).map (·.1)) → Facts c → P pre c →
      Fr h₀ env.locals h (fun y => if y = x then some v else kstB (fun z => if stored.contains z then u z else m₀ z) (ps c) y) → News h₀ env.locals h (Led c ++ own) →
      wpAny (model prog w) A (execs body env) (InvPostN h₀ env.locals (KstS Led ps Facts x stored m₀ P (pre ++ [(pre.length : Int)])) own ((Led c₀).map (·.1)) { s with heap := h, toks := tk } Q) E { s with heap := h, toks := tk })
    (done : ∀ (c : σ) (u : Str → Option Value) h tk, Facts c → P (rangeKs 0 vs.length) c → Fr h₀ env.locals h (fun y => if y = x then u y else kstB (fun z => if stored.contains z then u z else m₀ z) (ps c) y) → News h₀ env.locals h (Led c) → Q .next { s with heap := h, toks := tk }) :
    wpAny (model prog w) A (pyIter (.ref l)) (fun it s₂ => LoopAtV prog w A h₀ env x body Q E it s₂) E s := by
  have hol := (N _ (.head _)).1
  have hlL := (N _ (.head _)).2.1
  have hls : s.heap.IsList l vs.toArray := ⟨_, hol, rfl, nn, rfl⟩
  have hne' : l ≠ s.heap.objs.size := Nat.ne_of_lt (Heap.lt_size hol)
  have N' : News h₀ env.locals s.heap (Led c₀) := fun p hp => N p (.tail _ hp)
  refine wpAny_pyIter_list hls ?_
  have W := Walks.list (prog := prog) (w := w) hh s.heap.objs.size l hne' vs.toArray
  refine loop_invN (fun i m nx => KstS Led ps Facts x stored m₀ P ((rangeKs 0 vs.length).take i) m nx) W ?_ ?_ ?_ ?_ ⟨⟨_, Heap.get?_push_size _ rfl, rfl, rfl⟩, hls.at fun o e => Heap.get?_push_of_some _ e⟩ (F.push _) (fun p hp => ⟨Heap.get?_push_of_some _ (N' p hp).1, (N' p hp).2⟩) ⟨c₀, rfl, hf, hk, fun _ _ _ _ => rfl, by simpa using hp⟩ ?_ ?_
  · intro hm
    rcases List.mem_cons.mp hm with e | hm
    · exact absurd F.ns.lt (e ▸ Nat.lt_irrefl _)
    · exact hlL (List.mem_singleton.mp hm).symm
  · intro b hb
    rw [List.mem_singleton.mp hb]
    exact next_is_new F
  · intro p hp hI
    exact absurd (Heap.lt_size (N' p hp).1) ((List.mem_singleton.mp hI) ▸ Nat.lt_irrefl _)
  · intro p hp hI
    rcases List.mem_cons.mp hI with e | hI
    · exact absurd (Heap.lt_size (N' p hp).1) (e ▸ Nat.lt_irrefl _)
    · exact hne p hp (List.mem_singleton.mp hI)
  · rintro i v m₁ nx h tk own hi hv _ hoff ⟨c, rfl, hf', h1, h2, hp'⟩ F₁ N₁
    replace hi : i < vs.length := by simpa using hi
    have hk' : (rangeKs 0 vs.length)[i]? = some (0 + (i : Int)) := by simp [rangeKs, hi]
    have hs : (rangeKs 0 vs.length).take (i + 1) = (rangeKs 0 vs.length).take i ++ [(0 + (i : Int))] := by simp [List.take_add_one, hk']
    have hlen : ((rangeKs 0 vs.length).take i).length = i := by rw [List.length_take, rangeKs_length]; omega
    have e0 : (0 + (i : Int)) = ((((rangeKs 0 vs.length).take i).length : Nat) : Int) := by rw [hlen]; omega
    rw [hs, e0]
    have hv' : vs[i]? = some v := by simpa using hv
    exact turn c _ v m₁ h tk own (by rw [hlen]; exact hv') (by rw [hlen]; exact hi) hoff hf' hp' (kst_fr h1 h2 F₁) N₁
  · rintro m₁ nx h tk ⟨c, rfl, hf', h1, h2, hp'⟩ F₁ N₁
    have hl : (rangeKs 0 vs.length).take vs.length = rangeKs 0 vs.length := List.take_of_length_le (Nat.le_of_eq (rangeKs_length _ _))
    rw [List.size_toArray, hl] at hp'
    exact done c m₁ h tk hf' hp' (kst_frOut h1 h2 F₁) N₁
end
end Mine
namespace Mine
section
variable {prog : Program} {w : World} {A : Around} {E : Value → Shared → Prop} {s : Shared} {h₀ : Heap} {L D r : Addr} {m : Str → Option Value} {news rest : List (Addr × Obj)}
theorem ints_pt : ∀ (ws : List Value) (ns : List Int), ws.length = ns.length → (∀ (j : Nat) (x : Value), ws[j]? = some x → ∃ (n : Int) (t : Tok), ns[j]? = some n ∧ x = Value.int n t) → IntsAre ws ns
  | [], [], _, _ => .nil
  | [], _ :: _, h, _ => by simp at h
  | _ :: _, [], h, _ => by simp at h
  | x :: ws, n :: ns, h, hp => by
    obtain ⟨n', t, e1, e2⟩ := hp 0 x rfl
    have e3 : n' = n := by simpa using e1.symm
    rw [e2, e3]
    exact .cons n t (ints_pt ws ns (by simpa using h) fun j y hj => hp (j + 1) y (by simpa using hj))
theorem intsUp_get {a b : Int} {j : Nat} (h : j < (b + 1 - a).toNat) : (intsUp a b)[j]? = some (a + (j : Int)) := by
  unfold intsUp
  rw [List.getElem?_map, List.getElem?_range h]
  rfl
theorem ext_rangeK {a b : Int} {t u v : Tok} {n : Nat} {us : List Value} {ms : List Int} {Q : Value → Shared → Prop} (hh : A.handled = none) (F : Fr h₀ L s.heap m) (N : News h₀ L s.heap news) (hm : (D, listOf us.toArray n) ∈ news) (hr : IsRange s.heap r a b 1 t u v)
    (hc : Cut [D] news rest) (hi : IntsAre us ms) (hu : us.length ≤ 1000) (ha : 0 ≤ a) (hb : a ≤ b) (hb2 : b ≤ 32)
    (h : ∀ h' tk ws c', Fr h₀ L h' m → News h₀ L h' ((D, listOf ws.toArray c') :: rest) → IntsAre ws (ms ++ intsUp a (b - 1)) → Q .none { s with heap := h', toks := tk }) :
    wpAny (model prog w) A (call (.builtin "list.extend") [.ref D, .ref r]) Q E s := by
  have hD := N _ hm
  have hul := hi.length
  refine ext_range (k := (b - a).toNat) hh hD.1 hr (small_one (by omega) (by omega) (by omega) (by omega)) (rangeSize_nat _ _) (by omega) hu fun h' tk ws c' hk hD' hlen hpt => ?_
  obtain ⟨oL, es, ep, hL, hLd, hLk, hLf⟩ := F.ns
  refine h h' tk ws c' ⟨⟨oL, es, ep, hk _ _ (Ne.symm hD.2.1) hL, hLd, hLk, hLf⟩, fun b o e => hk b o (fun q => by rw [q, hD.2.2] at e; cases e) (F.keep b o e), F.above⟩ (fun p hp => ?_) ?_
  · rcases List.mem_cons.mp hp with rfl | hp
    · exact ⟨hD', hD.2⟩
    · have z := hc.sub p hp
      exact ⟨hk _ _ (fun q => z.2 (by rw [q]; exact .head _)) (N p z.1).1, (N p z.1).2⟩
  · have hl2 : (intsUp a (b - 1)).length = (b - a).toNat := by
      unfold intsUp
      rw [List.length_map, List.length_range]
      have : b - 1 + 1 = b := by omega
      rw [this]
    have hlen2 : ws.length = (ms ++ intsUp a (b - 1)).length := by rw [hlen, List.length_append, hl2, hul]
    have pt : ∀ (j : Nat) (y : Value), ws[j]? = some y → ∃ (n : Int) (t : Tok), (ms ++ intsUp a (b - 1))[j]? = some n ∧ y = Value.int n t := by
      intro j y hj
      have hjl := (List.getElem?_eq_some_iff.mp hj).1
      by_cases hlt : j < us.length
      · have q := hpt j y hj
        rw [if_pos hlt] at q
        obtain ⟨n', t', e1, e2⟩ := IntsAre.at hi j y q
        exact ⟨n', t', by rw [List.getElem?_append_left (by omega)]; exact e2, e1⟩
      · have q := hpt j y hj
        rw [if_neg hlt] at q
        obtain ⟨t', e1⟩ := q
        refine ⟨_, t', ?_, e1⟩
        rw [List.getElem?_append_right (by omega), ← hul, intsUp_get (by omega)]
        congr 1
        omega
    exact ints_pt ws _ hlen2 pt
theorem flat_app (l l' : List (Int × Int)) : flat (l ++ l') = flat l ++ flat l' := by unfold flat; rw [List.flatMap_append]
theorem flat_one (r : Int × Int) : flat [r] = intsUp r.1 r.2 := by unfold flat; simp
theorem flat_last {l : List (Int × Int)} {r : Int × Int} (hR : ∀ q ∈ l, RunOk q) (hp : ∀ q ∈ l, q.2 + 1 < r.1) : flat l = [] ∨ (0 < (flat l).length ∧ (flat l).getLastD 0 + 1 < r.1) := by
  rcases List.eq_nil_or_concat l with e | ⟨l', q, e⟩
  · left; rw [e]; rfl
  · right
    rw [List.concat_eq_append] at e
    subst e
    have hq : q ∈ l' ++ [q] := List.mem_append.mpr (.inr (.head _))
    have h1 := hR q hq
    have h2 := hp q hq
    have e1 : intsUp q.1 q.2 = intsUp q.1 (q.2 - 1) ++ [q.2] := by
      have := ints_succ (a := q.1) (b := q.2 - 1) (by have := h1.2.1; omega)
      have e : q.2 - 1 + 1 = q.2 := by omega
      rw [e] at this
      exact this
    rw [flat_app, flat_one, e1, ← List.append_assoc]
    refine ⟨by simp; omega, ?_⟩
    rw [List.getLastD_eq_getLast?, List.getLast?_append]
    simpa using h2
end
end Mine
namespace Mine
def ElPost (rs : List (Int × Int)) (h h' : Heap) (v : Value) : Prop := ∃ (D : Addr) (us : List Value) (n : Nat), v = .ref D ∧ IntsAre us (flat rs) ∧ Gives [] [(D, listOf us.toArray n)] h h'
theorem ElPost.el {rs : List (Int × Int)} {h h' : Heap} {rest : List (Addr × Obj)} {Fp : Prop} {NP : List (Addr × Obj) → Prop} {K : Value → Prop}
    (H : ∀ (D : Addr) (us : List Value) (n : Nat), IntsAre us (flat rs) → Fp → NP [(D, listOf us.toArray n)] → Off D rest → K (.ref D)) : ∀ v, ElPost rs h h' v → Fp → (∀ own', Gives [] own' h h' → NP own' ∧ ∀ p ∈ own', Off p.1 rest) → K v :=
  fun _ ⟨D, us, n, e, I, g⟩ F G => e ▸ H D us n I F (G _ g).1 ((G _ g).2 _ (.head _))
theorem Cut.own {as : List Addr} : ∀ {own : List (Addr × Obj)}, OwnOff own as → Cut as own own
  | [], _ => .nil
  | p :: r, h => .keep (fun q => h p (.head _) _ q rfl) (Cut.own fun x hx => h x (.tail _ hx))
theorem getD_last {ms : List Int} (h : 0 < ms.length) : ms.getD (-1 + (ms.length : Int)).toNat 0 = ms.getLastD 0 := by
  have e : (-1 + (ms.length : Int)).toNat = ms.length - 1 := by omega
  rw [e, List.getLastD_eq_getLast?, List.getLast?_eq_getElem?, List.getD_eq_getElem?_getD]
section
local macro_rules | `(tactic| k_caughtB) => `(tactic| exact Cut.own (by with_reducible assumption))
local macro_rules | `(tactic| walk_at "call builtin:str.split") => `(tactic| k_extra "M split")
local macro_rules | `(tactic| walk_at "call builtin:list.extend") => `(tactic| k_extra "M ext")
local macro_rules | `(tactic| walk_at "InvEndN") => `(tactic| k_extra "M end")
local macro_rules | `(tactic| walk_at "exec If") => `(tactic| k_extra "M stop")
local macro_rules | `(tactic| walk_at "exec For") => `(tactic| (k_here; (rename Fr _ _ _ _ => lF'); (with_unfolding_all refine' For_invVF lF' ?k1 ?k2 ?_; (case k1 => exact rfl); (case k2 => exact rfl); k_whole)))
theorem elems_cons (prog : Program) (w : World) (mean : ExcName → Option Value) (mg mb : Str → Option Value) (rs : List (Int × Int)) (W : Str) (t : Tok) (hR : ∀ r ∈ rs, RunOk r) (hl : rs.length ≤ 32) (hp : rs.Pairwise fun r r' => r.2 + 1 < r'.1)
    (h1 : (Txt.item W 0 == Str.ofString "{") = true) (h2 : (Txt.item W (-1) == Str.ofString "}") = true) (h4 : (Txt.slice W (some 1) (some (-1)) == Str.ofString "") = false) (h5 : W.length ≤ 1000) (h6 : 2 ≤ W.length)
    (h7 : Txt.split (Txt.slice W (some 1) (some (-1))) (Str.ofString ", ") = rs.map rtxt) (h8 : (Txt.slice W (some 1) (some (-1))).length ≤ 1000) (hfl : (flat rs).length ≤ 1000) : Sp prog w mean mg mb 467 40 [.str W t] [] (ElPost rs) := by
  k_dflt (refine sp_body (binds := [(Str.ofString "words", .str W t)]) (fun _ => by k_is) (fun _ => by k_is) (by first | exact fun _ _ => BindsTo.of_eq rfl | exact fun _ X9 => binds_K X9 rfl (by k_is) rfl rfl rfl) (by exact locs rfl) (by exact rfl) (by exact rfl) (by exact rfl) (by decide) ?_)
  intro dp un gd outer A₀ base h₀ g h1 L' gens drawn toks os Q hKg hO F' N' B' X' T' hOwn hsL hdp hun hret hretN
  (try dsimp only); (try with_reducible show wpAny _ _ _ _ _ _)
  k_with_none
  k_with "M split" => (refine wait ?_)
  (repeat' (first | (k_unfold; (try dsimp only)) | (k_end; wrow_close) | (walk1; (try dsimp only)) | (dsimp only; walk1) | (leave1; (try dsimp only)) | fail "no step"))
  unfold waitT
  k_with_none
  k_dflt (refine KSpl.split1 (by k_asm) (by k_asm) (by decide) ?_ (by rw [PySem.sizeLine_eq]; omega))
  intro D9 l9 h9 k9 e9 S9 F9 N9 l1
  k_lt l1
  k_sweep
  rw [h7] at e9
  rw [e9] at S9
  have hlv : (strValues l9).length = rs.length := by have := S9.length; simpa using this
  generalize strValues l9 = vs at S9 N9 hlv
  k_with "M iter" => (refine wait ?_)
  (repeat' (first | (k_unfold; (try dsimp only)) | (k_end; wrow_close) | (walk1; (try dsimp only)) | (dsimp only; walk1) | (leave1; (try dsimp only)) | fail "no step"))
  unfold waitT
  k_with_none
  refine iter_vals (σ := List Value × List Int × Nat) (fun c => [(_, listOf c.1.toArray c.2.2)]) (fun _ => []) (fun c => IntsAre c.1 c.2.1) [Str.ofString "ends", Str.ofString "low", Str.ofString "high"] (fun pre c => c.2.1 = flat (rs.take pre.length)) ([], [], 0) (by rfl) F9 N9 (fun p hp => by rw [List.mem_singleton.mp hp]; exact Nat.ne_of_lt l1) .nil (fun p hp => nomatch hp) (by simp [flat]) ?_ ?_
  · rintro ⟨us, ms, nn⟩ pre v u h tk own hv hlt hoff hF hP Fr9 Nw9
    dsimp only at hF hP Nw9 hoff
    simp only [List.map_cons, List.map_nil] at hoff
    have hlt2 : pre.length < rs.length := by omega
    obtain ⟨tk5, hv5⟩ := S9.at (j := pre.length) (y := rtxt rs[pre.length]) (by rw [List.getElem?_map, List.getElem?_eq_getElem hlt2]; rfl)
    rw [hv] at hv5
    cases hv5
    have hmem := List.getElem_mem hlt2
    have hR9 := hR _ hmem
    have hlast := flat_last (l := rs.take pre.length) (r := rs[pre.length]) (fun q hq => hR q (List.mem_of_mem_take hq)) (fun q hq => by
      obtain ⟨j, hj, e⟩ := List.mem_iff_getElem.mp hq
      rw [List.length_take] at hj
      rw [← e, List.getElem_take]
      exact List.pairwise_iff_getElem.mp hp j pre.length (by omega) hlt2 (by omega))
    have hnext : flat (rs.take (pre.length + 1)) = ms ++ intsUp (rs[pre.length]).1 (rs[pre.length]).2 := by
      rw [List.take_add_one, List.getElem?_eq_getElem hlt2, hP, flat_app]; congr 1; exact flat_one _
    have hms : ms.length ≤ 1000 := by
      rw [hP]
      refine Nat.le_trans ?_ hfl
      have : flat rs = flat (rs.take pre.length) ++ flat (rs.drop pre.length) := by rw [← flat_app, List.take_append_drop]
      rw [this, List.length_append]; omega
    rw [← hP] at hlast
    generalize rs[pre.length] = r9 at hR9 hlast hnext Fr9
    have kMark := kstMark
    dsimp only [kstB] at Fr9
    simp only [List.cons_append, List.nil_append] at Nw9
    obtain ⟨g0, g1, g2⟩ := hR9
    (try dsimp only)
    (try k_fold)
    have n1 : (numT r9.1).length ≤ 10 := (dec_digits g0 (by omega)).2.2.1
    have n2 : (numT r9.2).length ≤ 10 := (dec_digits (v := r9.2) (by omega) (by omega)).2.2.1
    have hdl : (Str.ofString "..").length = 2 := by decide
    have hfl9 := hF.length
    have hst9 : ∀ b, b = r9.2 + 1 → ms ++ intsUp r9.1 (b - 1) = flat (rs.take (pre ++ [(pre.length : Int)]).length) := fun b hb => by
      rw [List.length_append]
      show _ = flat (rs.take (pre.length + 1))
      rw [hnext, hb, Int.add_sub_cancel]
    clear hR hp h7 S9 hv hlt hlt2 hmem hfl hlv hl hnext hP
    by_cases h12 : r9.1 = r9.2
    · obtain ⟨e1, e2⟩ := rtxt_one ⟨g0, g1, g2⟩ h12
      rw [e1] at Fr9
      k_with_none
      k_with "M stop" => ((with_reducible show wpAny _ _ (exec (.If (.BoolOp _ _ _) _ _ _) _) _ _ _); refine wait ?_)
      k_with "M split" => (k_dflt (refine KSpl.split1 (by k_asm) (by k_asm) (by decide) ?_ (by (rw [PySem.sizeLine_eq]; (try simp only [Str.length_append]); omega))); intro D8 l8 h8 k8 e8 S8 F8 N8 q8; (k_lt q8); (try k_sweep); (rw [e2] at e8); (obtain ⟨t8, l8', z8, e8'⟩ := KSpl.cons_of e8); (have y8 := KSpl.nil_of e8'); (subst y8); (subst z8); (simp only [strValues, List.map_cons, List.map_nil] at N8); (try dsimp only); (try k_fold))
      (repeat' (first | (k_unfold; (try dsimp only)) | (k_end; wrow_close) | (walk1; (try dsimp only)) | (dsimp only; walk1) | (leave1; (try dsimp only)) | fail "no step"))
      unfold waitT
      k_with_none
      k_with "M ext" => ((rename IsRange _ _ _ _ _ _ _ _ => rg9); k_dflt (refine ext_rangeK (by rfl) (by k_asm) (by k_asm) (by k_mem) rg9 (by walk_at "M cut") hI9 (by ((try dsimp only [List.length_nil]); omega)) (by omega) (by omega) (by omega) ?_); intro h7 tk7 ws7 c7 F7 N7 I7; (try dsimp only at N7); (try k_sweep); (try k_fold))
      k_with "M end" => k_dflt (exact kst_end (ws7, _, c7) F7 N7 (by k_allIn) (by (intro p hp; k_ownIn)) rfl I7 (fun p hp => nomatch hp) (by kst_same) (hst9 _ (by omega)))
      rcases hlast with hz | ⟨hz1, hz2⟩
      · subst hz
        have hI9 : IntsAre [] [] := .nil
        cases hF
        (repeat' (first | (k_unfold; (try dsimp only)) | (k_end; wrow_close) | (walk1; (try dsimp only)) | (dsimp only; walk1) | (leave1; (try dsimp only)) | fail "no step"))
      · have hu0 : 0 < us.length := by omega
        have hz3 : ms.getD (-1 + (ms.length : Int)).toNat 0 + 1 < r9.1 := by rw [getD_last hz1]; exact hz2
        have hI9 := hF
        (repeat' (first | (k_unfold; (try dsimp only)) | (k_end; wrow_close) | (walk1; (try dsimp only)) | (dsimp only; walk1) | (leave1; (try dsimp only)) | fail "no step"))
    · obtain ⟨e1, e2⟩ := rtxt_two ⟨g0, g1, g2⟩ h12
      rw [e1] at Fr9
      k_with_none
      k_with "M stop" => ((with_reducible show wpAny _ _ (exec (.If (.BoolOp _ _ _) _ _ _) _) _ _ _); refine wait ?_)
      k_with "M split" => (k_dflt (refine KSpl.split1 (by k_asm) (by k_asm) (by decide) ?_ (by (rw [PySem.sizeLine_eq]; (try simp only [Str.length_append]); omega))); intro D8 l8 h8 k8 e8 S8 F8 N8 q8; (k_lt q8); (try k_sweep); (rw [e2] at e8); (obtain ⟨t8, l8', z8, e8'⟩ := KSpl.cons_of e8); (obtain ⟨t7, l7', z7, e7'⟩ := KSpl.cons_of e8'); (have y7 := KSpl.nil_of e7'); (subst y7); (have y8 := z7); (subst y8); (subst z8); (simp only [strValues, List.map_cons, List.map_nil] at N8); (try dsimp only); (try k_fold))
      (repeat' (first | (k_unfold; (try dsimp only)) | (k_end; wrow_close) | (walk1; (try dsimp only)) | (dsimp only; walk1) | (leave1; (try dsimp only)) | fail "no step"))
      unfold waitT
      k_with_none
      k_with "M ext" => ((rename IsRange _ _ _ _ _ _ _ _ => rg9); k_dflt (refine ext_rangeK (by rfl) (by k_asm) (by k_asm) (by k_mem) rg9 (by walk_at "M cut") hI9 (by ((try dsimp only [List.length_nil]); omega)) (by omega) (by omega) (by omega) ?_); intro h7 tk7 ws7 c7 F7 N7 I7; (try dsimp only at N7); (try k_sweep); (try k_fold))
      k_with "M end" => k_dflt (exact kst_end (ws7, _, c7) F7 N7 (by k_allIn) (by (intro p hp; k_ownIn)) rfl I7 (fun p hp => nomatch hp) (by kst_same) (hst9 _ (by omega)))
      rcases hlast with hz | ⟨hz1, hz2⟩
      · subst hz
        have hI9 : IntsAre [] [] := .nil
        cases hF
        (repeat' (first | (k_unfold; (try dsimp only)) | (k_end; wrow_close) | (walk1; (try dsimp only)) | (dsimp only; walk1) | (leave1; (try dsimp only)) | fail "no step"))
      · have hu0 : 0 < us.length := by omega
        have hz3 : ms.getD (-1 + (ms.length : Int)).toNat 0 + 1 < r9.1 := by rw [getD_last hz1]; exact hz2
        have hI9 := hF
        (repeat' (first | (k_unfold; (try dsimp only)) | (k_end; wrow_close) | (walk1; (try dsimp only)) | (dsimp only; walk1) | (leave1; (try dsimp only)) | fail "no step"))
  · rintro ⟨us, ms, nn⟩ u h tk hF hP Fr9 Nw9
    dsimp only at hF hP Nw9
    rw [rangeKs_length, hlv, List.take_length] at hP
    subst hP
    dsimp only [kstB] at Fr9
    (try dsimp only)
    (try k_fold)
    k_with_none
    (repeat' (first | (k_unfold; (try dsimp only)) | (k_end; wrow_close) | (walk1; (try dsimp only)) | (dsimp only; walk1) | (leave1; (try dsimp only)) | fail "no step"))
    exact hret _ _ _ (end_kept hKg (by assumption)) ⟨_, _, _, rfl, hF, end_gives hKg (by assumption) (by walk_at "M in")⟩
end
end Mine
namespace Mine
theorem elems_nil (prog : Program) (w : World) (mean : ExcName → Option Value) (mg mb : Str → Option Value) (W : Str) (t : Tok) (h1 : (Txt.item W 0 == Str.ofString "{") = true) (h2 : (Txt.item W (-1) == Str.ofString "}") = true) (h4 : (Txt.slice W (some 1) (some (-1)) == Str.ofString "") = true) (h5 : W.length ≤ 1000) (h6 : 2 ≤ W.length) :
    Sp prog w mean mg mb 467 40 [.str W t] [] (ElPost []) := by
  k_dflt (refine sp_body (binds := [(Str.ofString "words", .str W t)]) (fun _ => by k_is) (fun _ => by k_is) (by first | exact fun _ _ => BindsTo.of_eq rfl | exact fun _ X9 => binds_K X9 rfl (by k_is) rfl rfl rfl) (by exact locs rfl) (by exact rfl) (by exact rfl) (by exact rfl) (by decide) ?_)
  intro dp un gd outer A₀ base h₀ g h1 L' gens drawn toks os Q hKg hO F' N' B' X' T' hOwn hsL hdp hun hret hretN
  (try dsimp only); (try with_reducible show wpAny _ _ _ _ _ _)
  k_with_none
  (repeat' (first | (k_unfold; (try dsimp only)) | (k_end; wrow_close) | (walk1; (try dsimp only)) | (dsimp only; walk1) | (leave1; (try dsimp only)) | fail "no step"))
  exact hret _ _ _ (end_kept hKg (by assumption)) ⟨_, [], _, rfl, .nil, end_gives hKg (by assumption) (by walk_at "M in")⟩
theorem elems_sp (prog : Program) (w : World) (mean : ExcName → Option Value) (mg mb : Str → Option Value) (rs : List (Int × Int)) (mk : Int) (t : Tok) (hR : Runs rs) (hf : flat rs = elems mk 32) : Sp prog w mean mg mb 467 40 [.str (setStr rs) t] [] (ElPost rs) := by
  have h1 : (Txt.item (setStr rs) 0 == Str.ofString "{") = true := by unfold setStr; rw [set_first]; decide
  have h2 : (Txt.item (setStr rs) (-1) == Str.ofString "}") = true := by unfold setStr; rw [set_last]; decide
  have h3 : Txt.slice (setStr rs) (some 1) (some (-1)) = Txt.join (Str.ofString ", ") (rs.map rtxt) := set_inner _
  have hl : rs.length ≤ 32 := runs_len hR.2 hf
  have hj : (Txt.join (Str.ofString ", ") (rs.map rtxt)).length ≤ 600 := by
    have a1 := rtxt_len hR.2
    have a2 := join_fits (ys := rs.map rtxt) (n := 300) (by rw [List.length_map]; omega)
    omega
  have hw : (setStr rs).length = (Txt.join (Str.ofString ", ") (rs.map rtxt)).length + 2 := set_len _
  have hfl : (flat rs).length ≤ 1000 := by
    rw [hf]
    unfold elems
    refine Nat.le_trans (List.length_filter_le _ _) ?_
    simp
  by_cases hne : rs = []
  · subst hne
    exact elems_nil prog w mean mg mb _ t h1 h2 (by rw [h3, set_none]; decide) (by omega) (by omega)
  · refine elems_cons prog w mean mg mb rs _ t hR.2 hl hR.1 h1 h2 ?_ (by omega) (by omega) (by rw [h3]; exact pieces hR.2 hne) (by rw [h3]; omega) hfl
    rw [h3, set_none, decide_eq_false]
    intro e
    have q := pieces hR.2 hne
    have e0 : Txt.join (Str.ofString ", ") (rs.map rtxt) = ⟨#[]⟩ := by rw [← str_of_toList (x := Txt.join (Str.ofString ", ") (rs.map rtxt)), e]
    rw [e0] at q
    have e1 : Txt.split (⟨#[]⟩ : Str) (Str.ofString ", ") = [⟨#[]⟩] := by decide +kernel
    rw [e1] at q
    cases rs with
    | nil => exact hne rfl
    | cons r rest =>
      have q1 : rtxt r = ⟨#[]⟩ := (List.cons.inj q).1.symm
      have hr := hR.2 r (.head _)
      have q2 := (dec_digits (v := r.1) hr.1 (by omega)).2.1
      have q3 : (rtxt r).length = 0 := by rw [q1]; rfl
      unfold rtxt at q3
      split at q3
      · omega
      · rw [Str.length_append, Str.length_append] at q3; omega
end Mine
namespace Mine
section
variable {prog : Program} {w : World} {mean : ExcName → Option Value} {mg mb : Str → Option Value} {f l : Addr} {need : Nat} {items : List Value} {Post : Heap → Heap → Value → Prop}
  {dp un : Nat} {gd : Option (List Code)} {cn : Str} {cs : Scope} {a : Addr} {ccd : Value} {cl : List (Str × Addr)} {outer : List Env}
  {A₀ : Around} {base h₀ : Heap} {L : Addr} {m : Str → Option Value} {s : Shared} {Q E : Value → Shared → Prop}
theorem u_newL {news : List (Addr × Obj)} (B : Below A₀ base outer h₀) (F : Fr h₀ L s.heap m) (X : (hd.heap_1 w.params).In h₀) (N : News h₀ L s.heap news) (T : Top top (looseW top [Str.ofString "Names"]) mean mg mb h₀) (hck : cs.kind = .function)
    (hil : h₀.IsList l items.toArray) (H : SpL prog w mean mg mb f need l items Post) (hdp : dp + need < recursionLimit) (hun : un + 8 * need < cLine)
    (hret : ∀ h' tk' v, Post s.heap h' v → Fr h₀ L h' m → (∀ own', Gives [] own' s.heap h' → News h₀ L h' (own' ++ news) ∧ ∀ p ∈ own', Off p.1 news) → Q v { s with heap := h', toks := tk' }) :
    wpAny (model prog w) (ktrTop dp un gd cn cs L a ccd cl outer) (call (.ref f) [.ref l]) Q E s :=
  H dp un gd cn cs a ccd cl outer A₀ base h₀ L m s Q E B F X News.nil T hck hdp hun (fun v h' tk' k p => hret h' tk' v p (Kept.fr (own := []) k F News.nil) fun own' g =>
    ⟨fun q hq => (List.mem_append.mp hq).elim (news_gives F News.nil g q) (Kept.led0 k N q), fun p hp q hq e => by
      rcases (g p hp).2 with h1 | h1
      · cases h1
      · have h2 := (N q hq).1
        rw [← e, h1] at h2; cases h2⟩) hil
theorem FigPost.el {h h' : Heap} {rest : List (Addr × Obj)} {Fp : Prop} {NP : List (Addr × Obj) → Prop} {K : Value → Prop}
    (H : ∀ (l : Addr) (us : List Value) (ms : List Int) (n : Nat), IntsAre us ms → ms.length ≤ 1000 → Fp → NP [(l, listOf us.toArray n)] → Off l rest → K (.ref l)) : ∀ v, FigPost h h' v → Fp → (∀ own', Gives [] own' h h' → NP own' ∧ ∀ p ∈ own', Off p.1 rest) → K v :=
  fun _ ⟨l, us, ms, n, e, h1, h2, g⟩ F G => e ▸ H l us ms n h1 h2 F (G _ g).1 ((G _ g).2 _ (.head _))
theorem TypesPost.el {h h' : Heap} {rest : List (Addr × Obj)} {Fp : Prop} {NP : List (Addr × Obj) → Prop} {K : Value → Prop}
    (H : ∀ (z : TsZ) (t : Tok), TyDict (Str.ofString "set") z.tm z.om → TyDict (Str.ofString "integer") z.ti z.oi → TyDict (Str.ofString "byte") z.ty z.oy → TyDict (Str.ofString "char") z.tc z.oc → TyDict (Str.ofString "boolean") z.tb z.ob → SepN (tsAdr z) → Fp → NP (tsLed z 7 t) → (∀ p ∈ tsLed z 7 t, Off p.1 rest) → K (.ref z.x)) :
    ∀ v, TypesPost h h' v → Fp → (∀ own', Gives [] own' h h' → NP own' ∧ ∀ p ∈ own', Off p.1 rest) → K v :=
  fun _ ⟨z, t, e, g, ⟨T1, T2, T3, T4, T5⟩, S⟩ F G => e ▸ H z t T1 T2 T3 T4 T5 S F (G _ g).1 (G _ g).2
theorem NamesPost.el {prog : Program} {w : World} {h h' : Heap} {rest : List (Addr × Obj)} {Fp : Prop} {NP : List (Addr × Obj) → Prop} {K : Value → Prop}
    (H : ∀ (z : NmZ) (o0 : Obj), TabOk prog w z.al z.oal (alK z) alD → TabOk prog w z.s0 o0 [] [] → SepN (nmAdr z) → Fp → NP (nmLed z o0) → (∀ p ∈ nmLed z o0, Off p.1 rest) → K (.ref z.x)) :
    ∀ v, NamesPost prog w h h' v → Fp → (∀ own', Gives [] own' h h' → NP own' ∧ ∀ p ∈ own', Off p.1 rest) → K v :=
  fun _ ⟨z, o0, e, g, T1, T2, S⟩ F G => e ▸ H z o0 T1 T2 S F (G _ g).1 (G _ g).2
end
section
variable {prog : Program} {w : World} {A : Around} {E : Value → Shared → Prop} {s : Shared} {a : Int} {t u : Tok} {Q : Value → Shared → Prop}
theorem pow31 (h : Q (.int 2147483648 s.toks) { s with toks := s.toks + 1 }) : wpAny (model prog w) A (binaryOp .Pow (.int 2 t) (.int 31 u)) Q E s :=
  pow_int_small (by decide) (by decide) (by decide) h
theorem pow32 (h : Q (.int 4294967296 s.toks) { s with toks := s.toks + 1 }) : wpAny (model prog w) A (binaryOp .Pow (.int 2 t) (.int 32 u)) Q E s :=
  pow_int_small (by decide) (by decide) (by decide) h
theorem mod32 (h : ∀ r, 0 ≤ r → r < 4294967296 → Q (.int r s.toks) { s with toks := s.toks + 1 }) : wpAny (model prog w) A (binaryOp .Mod (.int a t) (.int 4294967296 u)) Q E s :=
  mod_int' (by decide) (h _ (Int.fmod_nonneg_of_pos _ (by decide)) (Int.fmod_lt_of_pos _ (by decide)))
theorem mod256 (h : ∀ r, 0 ≤ r → r < 256 → Q (.int r s.toks) { s with toks := s.toks + 1 }) : wpAny (model prog w) A (binaryOp .Mod (.int a t) (.int 256 u)) Q E s :=
  mod_int' (by decide) (h _ (Int.fmod_nonneg_of_pos _ (by decide)) (Int.fmod_lt_of_pos _ (by decide)))
end
end Mine
local macro_rules | `(tactic| walk_at "binaryOp Pow int int") => `(tactic| (k_here; (refine' pow_int_small ?kb1 ?kb2 ?kb3 ?_); (case kb1 => l_bnd); (case kb2 => l_bnd); (case kb3 => decide)))
local macro_rules | `(tactic| walk_at "binaryOp Pow int int") => `(tactic| (k_here; (first | with_reducible refine pow31 ?_ | with_reducible refine pow32 ?_)))
local macro_rules | `(tactic| walk_at "binaryOp Mod int int") => `(tactic| (k_here; (first | with_reducible refine mod32 ?_ | with_reducible refine mod256 ?_); intro rm9 rm0 rm1))
namespace Mine
theorem law_read_chr (prog : Program) (w : World) (mean : ExcName → Option Value) (mg mb : Str → Option Value) (c : Int) (ts : Tok) (h0 : 0 ≤ c) (h1 : c < 256) : Sp prog w mean mg mb 460 15 [.str (strTxt ⟨#[c.toNat]⟩) ts] [] (ReadPost (Str.ofString "string") (fun t => .str ⟨#[c.toNat]⟩ t)) :=
  law_read_str prog w mean mg mb _ ts (by show 1 ≤ 900; decide) (fun d hd => by
    have e : d = c.toNat := by simpa using hd
    omega) (.inl rfl)
end Mine
namespace Mine
section
open PySem.Spec PyProof.V PySem.SeqAt PySem.Spec
variable {prog : Program} {w : World} {A : Around} {E : Value → Shared → Prop} {s : Shared} {h₀ : Heap} {L : Addr} {news : List (Addr × Obj)} {Q : Value → Shared → Prop}
theorem ne_pair {a b : Addr} {k v : Str} {t1 t2 t3 t4 : Tok} {n n' : Nat} (N : News h₀ L s.heap news) (h1 : (a, ({ cls := .type "tuple", data := .seq #[.str k t1, .str v t2] n } : Obj)) ∈ news) (h2 : (b, ({ cls := .type "tuple", data := .seq #[.str k t3, .str v t4] n' } : Obj)) ∈ news) (hu : A.units + 64 < cLine) (hk : PyData.strOk k = true) (hv : PyData.strOk v = true) (h : Q (.bool false) s) :
    wpAny (model prog w) A (compareOp .NotEq (.ref a) (.ref b)) Q E s := by
  have ra : Reads s.heap (.ref a) (.tuple [.str k, .str v]) [] := by
    have := Reads.tuple (N _ h1).1 rfl rfl (ReadsAll.cons (Reads.str k t1) (ReadsAll.cons (Reads.str v t2) ReadsAll.nil))
    simpa using this
  have rb : Reads s.heap (.ref b) (.tuple [.str k, .str v]) [] := by
    have := Reads.tuple (N _ h2).1 rfl rfl (ReadsAll.cons (Reads.str k t3) (ReadsAll.cons (Reads.str v t4) ReadsAll.nil))
    simpa using this
  have sh : shaped (.tuple [.str k, .str v]) = true := by
    unfold shaped
    simp [PyData.canLay0, PyData.canLayAll0, PyData.depth, PyData.depthAll, hk, hv]
  refine ne_dataH_same ra rb sh sh hu (by simp [noMix, noMixAll]) ?_
  rw [same_refl]
  exact h
end
end Mine
local macro_rules | `(tactic| walk_at "compareOp NotEq ref ref") => `(tactic| (k_here; k_dflt (refine' ne_pair ?k1 ?k2 ?k3 ?k4 ?k5 ?k6 ?_; (case k1 => k_asm); (case k2 => k_mem); (case k3 => k_mem); (case k4 => walk_at "M units"); (case k5 => decide); (case k6 => with_reducible assumption))))
namespace Mine
section
variable {M : Model} {A : Around} {E : Value → Shared → Prop} {s : Shared} {env : Env}
theorem wp_app {Γ : PySem.Ctx} {Q : Flow → Pos → Shared → Prop} {E' : Value → Pos → Shared → Prop} (b : List Stmt) : ∀ (a : List Stmt) (p : Pos) (s : Shared),
    Sem.wp M Γ (execs a env) (fun f p s => match f with | .next => Sem.wp M Γ (execs b env) Q E' p s | f => Q f p s) E' p s → Sem.wp M Γ (execs (a ++ b) env) Q E' p s
  | [], _, _, h => h
  | st :: r, p, s, h => by
    rw [execs_cons, Sem.wp_bind'] at h
    rw [List.cons_append, execs_cons, Sem.wp_bind']
    refine Sem.wp_mono M Γ _ (fun f p' s' h' => ?_) (fun _ _ _ h' => h') _ _ h
    cases f <;> first | exact wp_app b r p' s' h' | exact h'
/-- the first k statements, then the others -/
theorem seg {Q : Flow → Shared → Prop} (Φ : Shared → Prop) (k : Nat) {l : List Stmt} (h1 : ∀ Q' : Flow → Shared → Prop, (∀ s', Φ s' → Q' .next s') → wpAny M A (execs (l.take k) env) Q' E s)
    (h2 : ∀ s', Φ s' → wpAny M A (execs (l.drop k) env) Q E s') : wpAny M A (execs l env) Q E s := by
  intro Γ p hΓ
  have e := List.take_append_drop k l
  have h := h1 (fun f s' => match f with | .next => wpAny M A (execs (l.drop k) env) Q E s' | f => Q f s') (fun s' h => h2 s' h) Γ p hΓ
  generalize List.take k l = a at e h
  generalize List.drop k l = b at e h
  subst e
  refine wp_app b a p s (Sem.wp_mono M Γ _ (fun f p' s' h' => ?_) (fun _ _ _ h' => h') _ _ h)
  cases f <;> first | exact h' Γ p' hΓ | exact h'
end
section
variable {h₀ h : Heap} {L : Addr} {m : Str → Option Value}
theorem fr_see {ps : List (Str × Value)} (F : Fr h₀ L h m) (e : ∀ p ∈ ps, m p.1 = some p.2) : ∃ m0, Fr h₀ L h (kstB m0 ps) := by
  refine ⟨m, ?_⟩
  have q : kstB m ps = m := funext fun z => kstB_eq e fun _ => rfl
  rw [q]; exact F
end
/-- what a stretch of the law leaves: names of the frame, the ledger, facts -/
def Snap {σ : Type} (h₀ : Heap) (L : Addr) (s : Shared) (ps : σ → List (Str × Value)) (Led : σ → List (Addr × Obj)) (Facts : σ → Prop) (s' : Shared) : Prop :=
  ∃ (c : σ) (h : Heap) (tk : Nat) (m0 : Str → Option Value), s' = { s with heap := h, toks := tk } ∧ Fr h₀ L h (kstB m0 (ps c)) ∧ News h₀ L h (Led c) ∧ Facts c
theorem Snap.intro {σ : Type} {h₀ h : Heap} {L : Addr} {s : Shared} {tk : Nat} {m : Str → Option Value} {ps : σ → List (Str × Value)} {Led : σ → List (Addr × Obj)} {Facts : σ → Prop} {news : List (Addr × Obj)} (c : σ) (F : Fr h₀ L h m) (N : News h₀ L h news)
    (e : ∀ p ∈ ps c, m p.1 = some p.2) (hs : ∀ p ∈ Led c, p ∈ news) (f : Facts c) : Snap h₀ L s ps Led Facts { s with heap := h, toks := tk } := by
  obtain ⟨m0, F'⟩ := fr_see F e
  exact ⟨c, h, tk, m0, rfl, F', news_sub N hs, f⟩
end Mine
namespace Mine
structure LZ where
  (z : TsZ) (tt : Tok) (nz : NmZ) (o0 cf cm : Obj) (l : Addr) (us : List Value) (ms : List Int) (n : Nat)
abbrev lzLed (L : Addr) (k : Int) (c : LZ) : List (Addr × Obj) := (@HAdd.hAdd Nat Nat Nat _ (@HAdd.hAdd Nat Nat Nat _ L 1) 1, c.cm) :: (@HAdd.hAdd Nat Nat Nat _ L 1, c.cf) :: (c.l, listOf c.us.toArray c.n) :: (nmLed c.nz c.o0 ++ tsLed c.z k c.tt)
abbrev lzAdr (L : Nat) (c : LZ) : List Nat := (L + 1 + 1) :: (L + 1) :: c.l :: (nmAdr c.nz ++ tsAdr c.z)
structure LzOk (prog : Program) (w : World) (L : Nat) (c : LZ) : Prop where
  fcell : c.cf.data = .cell (some (.ref c.l))
  fcm : ∃ v0, c.cm.data = .cell v0
  fints : IntsAre c.us c.ms
  flen : c.ms.length ≤ 1000
  fty : TsTy c.z
  fal : TabOk prog w c.nz.al c.nz.oal (alK c.nz) alD
  fsc : TabOk prog w c.nz.s0 c.o0 [] []
  fsep : SepN (lzAdr L c)
  fnsep : SepN (nmAdr c.nz)
  fne : @Ne Nat c.z.x c.z.dx
section
variable {prog : Program} {w : World} {A : Around} {E : Value → Shared → Prop} {s : Shared} {env : Env} {h₀ : Heap} {L : Addr} {m : Str → Option Value} {σ : Type}
/-- a stretch of k statements, told by what it leaves -/
theorem seg_snap {Q : Flow → Shared → Prop} (_F : Fr h₀ L s.heap m) (ps : σ → List (Str × Value)) (Led : Addr → σ → List (Addr × Obj)) (Facts : Program → World → Addr → σ → Prop) (k : Nat) {l : List Stmt}
    (h1 : ∀ Q' : Flow → Shared → Prop, (∀ s', Snap h₀ L s ps (Led L) (Facts prog w L) s' → Q' .next s') → wpAny (model prog w) A (execs (l.take k) env) Q' E s)
    (h2 : ∀ (c : σ) (h : Heap) (tk : Nat) (m0 : Str → Option Value), Fr h₀ L h (kstB m0 (ps c)) → News h₀ L h (Led L c) → Facts prog w L c → wpAny (model prog w) A (execs (l.drop k) env) Q E { s with heap := h, toks := tk }) : wpAny (model prog w) A (execs l env) Q E s :=
  seg (Snap h₀ L s ps (Led L) (Facts prog w L)) k h1 fun s' ⟨c, h, tk, m0, e, F, N, f⟩ => e ▸ h2 c h tk m0 F N f
end
theorem cut_3 {a b x : Nat} {oa ob ox : Obj} {tl : List (Addr × Obj)} (h : SepN (a :: b :: x :: tl.map (·.1))) : Cut [x] ((a, oa) :: (b, ob) :: (x, ox) :: tl) ((a, oa) :: (b, ob) :: tl) := by
  obtain ⟨h1, h2, h3, -⟩ := h
  refine .keep (fun q => h1 x (.tail _ (.head _)) (List.mem_singleton.mp q)) (.keep (fun q => h2 x (.head _) (List.mem_singleton.mp q)) (.drop ?_))
  clear h1 h2
  induction tl with
  | nil => exact .nil
  | cons p r ih => exact .keep (fun q => h3 p.1 (.head _) (List.mem_singleton.mp q).symm) (ih fun b hb => h3 b (.tail _ hb))
section
variable {prog : Program} {w : World} {A : Around} {E : Value → Shared → Prop} {s : Shared} {env : Env} {h₀ : Heap} {L : Addr} {m : Str → Option Value}
/-- a stretch of the law: what it leaves, each fact by itself -/
theorem seg_law {Q : Flow → Shared → Prop} (F : Fr h₀ L s.heap m) (ps : LZ × Int × Tok → List (Str × Value)) (Led : Addr → LZ × Int × Tok → List (Addr × Obj)) (P : LZ × Int × Tok → Prop) (k : Nat) {l : List Stmt}
    (h1 : ∀ Q' : Flow → Shared → Prop, (∀ s', Snap h₀ L s ps (Led L) (fun c => LzOk prog w L c.1 ∧ P c) s' → Q' .next s') → wpAny (model prog w) A (execs (l.take k) env) Q' E s)
    (h2 : ∀ (z : TsZ) (tt : Tok) (nz : NmZ) (o0 cf cm : Obj) (l' : Addr) (us : List Value) (ms : List Int) (n : Nat) (xn : Int) (tn : Tok) (h : Heap) (tk : Nat) (m0 : Str → Option Value) (v0 : Option Value),
      Fr h₀ L h (kstB m0 (ps (⟨z, tt, nz, o0, cf, cm, l', us, ms, n⟩, xn, tn))) → News h₀ L h (Led L (⟨z, tt, nz, o0, cf, cm, l', us, ms, n⟩, xn, tn)) → cf.data = .cell (some (.ref l')) → cm.data = .cell v0 → IntsAre us ms → ms.length ≤ 1000 → TsTy z →
      TyDict (Str.ofString "set") z.tm z.om → TyDict (Str.ofString "integer") z.ti z.oi → TyDict (Str.ofString "byte") z.ty z.oy → TyDict (Str.ofString "char") z.tc z.oc → TyDict (Str.ofString "boolean") z.tb z.ob → TabOk prog w nz.al nz.oal (alK nz) alD → TabOk prog w nz.s0 o0 [] [] →
      SepN (lzAdr L ⟨z, tt, nz, o0, cf, cm, l', us, ms, n⟩) → OffN (@HAdd.hAdd Nat Nat Nat _ (@HAdd.hAdd Nat Nat Nat _ L 1) 1) [(@HAdd.hAdd Nat Nat Nat _ L 1), l', nz.x, nz.dx, nz.al, nz.sc, nz.s0, z.x, z.dx, z.ym, z.dm, z.yi, z.di, z.yy, z.dy, z.yc, z.dc, z.yb, z.db] → OffN (@HAdd.hAdd Nat Nat Nat _ L 1) [l', nz.x, nz.dx, nz.al, nz.sc, nz.s0, z.x, z.dx, z.ym, z.dm, z.yi, z.di, z.yy, z.dy, z.yc, z.dc, z.yb, z.db] → OffN l' [nz.x, nz.dx, nz.al, nz.sc, nz.s0, z.x, z.dx, z.ym, z.dm, z.yi, z.di, z.yy, z.dy, z.yc, z.dc, z.yb, z.db] → OffN nz.x [nz.dx, nz.al, nz.sc, nz.s0, z.x, z.dx, z.ym, z.dm, z.yi, z.di, z.yy, z.dy, z.yc, z.dc, z.yb, z.db] → OffN nz.dx [nz.al, nz.sc, nz.s0, z.x, z.dx, z.ym, z.dm, z.yi, z.di, z.yy, z.dy, z.yc, z.dc, z.yb, z.db] → OffN nz.al [nz.sc, nz.s0, z.x, z.dx, z.ym, z.dm, z.yi, z.di, z.yy, z.dy, z.yc, z.dc, z.yb, z.db] → OffN nz.sc [nz.s0, z.x, z.dx, z.ym, z.dm, z.yi, z.di, z.yy, z.dy, z.yc, z.dc, z.yb, z.db] → OffN nz.s0 [z.x, z.dx, z.ym, z.dm, z.yi, z.di, z.yy, z.dy, z.yc, z.dc, z.yb, z.db] → OffN z.x [z.dx, z.ym, z.dm, z.yi, z.di, z.yy, z.dy, z.yc, z.dc, z.yb, z.db] → OffN z.dx [z.ym, z.dm, z.yi, z.di, z.yy, z.dy, z.yc, z.dc, z.yb, z.db] → OffN z.ym [z.dm, z.yi, z.di, z.yy, z.dy, z.yc, z.dc, z.yb, z.db] → OffN z.dm [z.yi, z.di, z.yy, z.dy, z.yc, z.dc, z.yb, z.db] → OffN z.yi [z.di, z.yy, z.dy, z.yc, z.dc, z.yb, z.db] → OffN z.di [z.yy, z.dy, z.yc, z.dc, z.yb, z.db] → OffN z.yy [z.dy, z.yc, z.dc, z.yb, z.db] → OffN z.dy [z.yc, z.dc, z.yb, z.db] → OffN z.yc [z.dc, z.yb, z.db] → OffN z.dc [z.yb, z.db] → OffN z.yb [z.db] → OffN z.db [] → SepN (nmAdr nz) → @Ne Nat z.x z.dx → P (⟨z, tt, nz, o0, cf, cm, l', us, ms, n⟩, xn, tn) →
      wpAny (model prog w) A (execs (l.drop k) env) Q E { s with heap := h, toks := tk }) : wpAny (model prog w) A (execs l env) Q E s :=
  seg_snap F ps Led (fun prog w L c => LzOk prog w L c.1 ∧ P c) k h1 fun c h tk m0 F N K => by
    obtain ⟨⟨z, tt, nz, o0, cf, cm, l', us, ms, n⟩, xn, tn⟩ := c
    obtain ⟨⟨kcell, ⟨v0, kcm⟩, kints, klen, kty, kal, ksc, ksep, knsep, kne⟩, kx⟩ := K
    obtain ⟨kt1, kt2, kt3, kt4, kt5⟩ := id kty
    obtain ⟨q1, q2, q3, q4, q5, q6, q7, q8, q9, q10, q11, q12, q13, q14, q15, q16, q17, q18, q19, q20, -⟩ := id ksep
    exact h2 z tt nz o0 cf cm l' us ms n xn tn h tk m0 v0 F N kcell kcm kints klen kty kt1 kt2 kt3 kt4 kt5 kal ksc ksep q1 q2 q3 q4 q5 q6 q7 q8 q9 q10 q11 q12 q13 q14 q15 q16 q17 q18 q19 q20 knsep kne kx
end
end Mine
local macro_rules | `(tactic| k_caughtB) => `(tactic| first | exact Mine.cut_3 (by with_reducible assumption) | exact Cut.nil | (refine' Cut.dropIn ?a ?b; (case a => k_dflt k_mem); (case b => k_caughtB)) | (refine' Cut.keep ?a ?b; (case a => k_caughtNB); (case b => k_caughtB)))
namespace Mine
section
variable {prog : Program} {w : World} {A : Around} {h₀ : Heap} {L : Addr} {m : Str → Option Value} {env : Env} {ct elt : Expr} {x : Str} {scope : Scope} {cl : List (Str × Addr)} {s : Shared} {S : List (Addr × Obj) → Prop} {P : Nat → Value → Prop} {Fin : List Value → List (Addr × Obj) → Prop}
/-- the turns of a comprehension whose elements turn the ledger -/
theorem rest_inv {σ : Type} {n : Nat} (Led : σ → List (Addr × Obj)) (Inv : Nat → List Value → σ → Prop) (hS : ∀ c, S (Led c))
    (turn : ∀ i ys c v I oI C oC D m₂ h tk (Q' E' : Value → Shared → Prop), i < n → Inv i ys c → P i v → LCg.NsObj oC m₂ → m₂ x = some v → Fr h₀ L h m → News h₀ L h ((I, oI) :: (C, oC) :: (D, LCg.lst ys) :: Led c) → LCg.Off3 I C D (Led c) → ((@Ne Nat I C) ∧ (@Ne Nat I D) ∧ (@Ne Nat C D)) →
      (∀ (y : Value) (h' : Heap) (tk' : Nat) (c' : σ), Fr h₀ L h' m → News h₀ L h' ((I, oI) :: (C, oC) :: (D, LCg.lst ys) :: Led c') → LCg.Off3 I C D (Led c') → Inv (i + 1) (ys ++ [y]) c' → Q' y { s with heap := h', toks := tk' }) →
      wpAny (model prog w) A (eval elt (compEnvC scope cl C env)) Q' E' { s with heap := h, toks := tk })
    (fin : ∀ ys c, Inv n ys c → Fin ys (Led c)) (c : σ) (h0 : Inv 0 [] c) : LCg.CompRest prog w A h₀ L m env elt x scope cl s S P Fin n 0 [] (Led c) := by
  have key : ∀ (j i : Nat) (ys : List Value) (c : σ), i + j = n → Inv i ys c → LCg.CompRest prog w A h₀ L m env elt x scope cl s S P Fin j i ys (Led c) := by
    intro j
    induction j with
    | zero =>
      intro i ys c hi hy
      have e : i = n := by omega
      subst e
      exact LCg.CompRest.zero (fin ys c hy)
    | succ j ih =>
      intro i ys c hi hy
      refine LCg.CompRest.succ ?_
      intro v I oI C oC D m₂ h tk E' hv hC hx F N off ne
      refine turn i ys c v I oI C oC D m₂ h tk _ E' (by omega) hy hv hC hx F N off ne ?_
      intro y h' tk' c' F' N' off' hi'
      exact ⟨h', tk', Led c', rfl, F', N', off', hS c', ih (i + 1) _ c' (by omega) hi'⟩
  exact key n 0 [] c (by omega) h0
/-- the turns of a filter that turns nothing -/
theorem restT_inv {n : Nat} {news : List (Addr × Obj)} (G : Nat → List Value → Prop) (hS : S news)
    (turn : ∀ i ys v I oI C oC D m₂ h tk (Qb : Bool → Shared → Prop) (E' : Value → Shared → Prop), i < n → G i ys → P i v → LCg.NsObj oC m₂ → m₂ x = some v → Fr h₀ L h m → News h₀ L h ((I, oI) :: (C, oC) :: (D, LCg.lst ys) :: news) → LCg.Off3 I C D news → ((@Ne Nat I C) ∧ (@Ne Nat I D) ∧ (@Ne Nat C D)) →
      (∀ (h' : Heap) (tk' : Nat), Fr h₀ L h' m → News h₀ L h' ((I, oI) :: (C, oC) :: (D, LCg.lst ys) :: news) → G (i + 1) ys → Qb false { s with heap := h', toks := tk' }) →
      (∀ (h' : Heap) (tk' : Nat), Fr h₀ L h' m → News h₀ L h' ((I, oI) :: (C, oC) :: (D, LCg.lst ys) :: news) → G (i + 1) (ys ++ [v]) → Qb true { s with heap := h', toks := tk' }) →
      wpAny (model prog w) A (isTrue ct (compEnvC scope cl C env) (eval ct (compEnvC scope cl C env))) Qb E' { s with heap := h, toks := tk })
    (elem : ∀ i ys v I oI C oC D m₂ h tk (Q' E' : Value → Shared → Prop), P i v → LCg.NsObj oC m₂ → m₂ x = some v → Fr h₀ L h m → News h₀ L h ((I, oI) :: (C, oC) :: (D, LCg.lst ys) :: news) →
      (∀ (h' : Heap) (tk' : Nat), Fr h₀ L h' m → News h₀ L h' ((I, oI) :: (C, oC) :: (D, LCg.lst ys) :: news) → Q' v { s with heap := h', toks := tk' }) →
      wpAny (model prog w) A (eval elt (compEnvC scope cl C env)) Q' E' { s with heap := h, toks := tk })
    (fin : ∀ ys, G n ys → Fin ys news) (h0 : G 0 []) : LCt.CompRestT prog w A h₀ L m env ct elt x scope cl s S P Fin n 0 [] news := by
  have key : ∀ (j i : Nat) (ys : List Value), i + j = n → G i ys → LCt.CompRestT prog w A h₀ L m env ct elt x scope cl s S P Fin j i ys news := by
    intro j
    induction j with
    | zero =>
      intro i ys hi hy
      have e : i = n := by omega
      subst e
      exact LCt.CompRestT.zero (fin ys hy)
    | succ j ih =>
      intro i ys hi hy
      refine LCt.CompRestT.succ ?_
      intro v I oI C oC D m₂ h tk E' hv hC hx F N off ne
      refine turn i ys v I oI C oC D m₂ h tk _ E' (by omega) hy hv hC hx F N off ne ?_ ?_
      · intro h' tk' F' N' g
        simp only [Bool.false_eq_true, if_false]
        exact ⟨h', tk', news, rfl, F', N', off, hS, ih (i + 1) _ (by omega) g⟩
      · intro h' tk' F' N' g
        simp only [if_true]
        refine elem i ys v I oI C oC D m₂ h' tk' _ E' hv hC hx F' N' ?_
        intro h'' tk'' F'' N''
        exact ⟨h'', tk'', news, rfl, F'', N'', off, hS, ih (i + 1) _ (by omega) g⟩
  exact key n 0 [] (by omega) h0
end
/-- what the filter over the places takes -/
theorem elems_ask {mk : Int} {i : Nat} : setBit mk (i : Int) = decide ((mk.fdiv (2 ^ i)).fmod 2 = 1) := by
  have e : ((i : Int)).toNat = i := by omega
  unfold setBit
  rw [e, bitAnd_m1, Int.fmod_eq_emod_of_nonneg _ (show (0 : Int) ≤ 2 by decide)]
  by_cases h : mk.fdiv (2 ^ i) % 2 = 1
  · rw [h]; rfl
  · rw [decide_eq_false h]
    exact beq_eq_false_iff_ne.mpr h
theorem ints_yes {mk : Int} {i : Nat} {ys : List Value} {t : Tok} (h : IntsAre ys (elems mk (i : Int))) (hb : (mk.fdiv (2 ^ i)).fmod 2 = 1) : IntsAre (ys ++ [.int (i : Int) t]) (elems mk ((i + 1 : Nat) : Int)) := by
  have e : ((i + 1 : Nat) : Int) = (i : Int) + 1 := by omega
  rw [e, elems_succ (by omega), elems_ask, if_pos (decide_eq_true hb)]
  exact h.append (.cons _ _ .nil)
theorem ints_no {mk : Int} {i : Nat} {ys : List Value} (h : IntsAre ys (elems mk (i : Int))) (hb : ¬ (mk.fdiv (2 ^ i)).fmod 2 = 1) : IntsAre ys (elems mk ((i + 1 : Nat) : Int)) := by
  have e : ((i + 1 : Nat) : Int) = (i : Int) + 1 := by omega
  rw [e, elems_succ (by omega), elems_ask, if_neg (by simpa using hb), List.append_nil]
  exact h
end Mine
namespace Mine
theorem chr_ok {c : Int} (h : c < 256) : PyData.strOk ⟨#[c.toNat]⟩ = true := by
  have : c.toNat < 1114112 := by omega
  simpa [PyData.strOk] using this
theorem str_ok {v : Str} (h : ∀ c ∈ v.cps.toList, c < 256) : PyData.strOk v = true := by
  unfold PyData.strOk
  rw [Array.all_eq_true']
  intro c hc
  have := h c (Array.mem_toList_iff.mpr hc)
  exact decide_eq_true (by omega)
theorem string_ok : PyData.strOk (Str.ofString "string") = true := str_ok (by decide)
abbrev menuT : Str := Str.ofString "a B9(*;é"
def menuC (k : Nat) : Nat := menuT.cps.getD k 0
abbrev signOk (d : Nat) : Prop := d < 256 ∧ d ≠ 34 ∧ d ≠ 10
theorem menu_tab : ∀ k : Fin 8, Txt.item menuT ((k.val : Nat) : Int) = ⟨#[menuC k.val]⟩ ∧ signOk (menuC k.val) := by decide +kernel
theorem menu_sign {r : Int} (h0 : 0 ≤ r) (h1 : r < 8) : ∃ d, Txt.item menuT r = ⟨#[d]⟩ ∧ signOk d := by
  obtain ⟨k, rfl⟩ := Int.eq_ofNat_of_zero_le h0
  have hk : k < 8 := by omega
  exact ⟨_, menu_tab ⟨k, hk⟩⟩
/-- i signs of the menu, drawn -/
def Drawn (i : Nat) (ys : List Value) (zs : List Str) : Prop := StrsAre ys zs ∧ ∃ ds : List Nat, zs = signs ⟨ds.toArray⟩ ∧ ds.length = i ∧ ∀ d ∈ ds, signOk d
theorem drawn_nil : Drawn 0 [] [] := ⟨.nil, [], rfl, rfl, fun _ h => nomatch h⟩
theorem drawn_snoc {i : Nat} {ys : List Value} {zs : List Str} {r : Int} {t : Tok} (h : Drawn i ys zs) (h0 : 0 ≤ r) (h1 : r < 8) : Drawn (i + 1) (ys ++ [.str (Txt.item menuT r) t]) (zs ++ [Txt.item menuT r]) := by
  obtain ⟨hs, ds, rfl, hl, hd⟩ := h
  obtain ⟨d, e, ok⟩ := menu_sign h0 h1
  rw [e]
  refine ⟨strs_snoc hs, ds ++ [d], by unfold signs; simp, by simp [hl], fun x hx => ?_⟩
  rcases List.mem_append.mp hx with hx | hx
  · exact hd x hx
  · rw [List.mem_singleton.mp hx]; exact ok
theorem drawn_text {i : Nat} {ys : List Value} {zs : List Str} (h : Drawn i ys zs) (hi : i ≤ 6) : ∃ v : Str, Txt.join (Str.ofString "") zs = v ∧ v.length ≤ 6 ∧ ∀ c ∈ v.cps.toList, signOk c := by
  obtain ⟨hs, ds, rfl, hl, hd⟩ := h
  refine ⟨⟨ds.toArray⟩, join_signs _, ?_, fun c hc => hd c (by simpa using hc)⟩
  show ds.toArray.size ≤ 6
  simp; omega
section
variable {prog : Program} {w : World} {A : Around} {E : Value → Shared → Prop} {s : Shared} {h₀ : Heap} {L : Addr} {news : List (Addr × Obj)} {Q : Value → Shared → Prop}
theorem ne_ints_same {a b : Addr} {vs us : List Value} {ns ms : List Int} {n n' : Nat} (N : News h₀ L s.heap news) (h1 : (a, listOf vs.toArray n) ∈ news) (h2 : (b, listOf us.toArray n') ∈ news) (hi : IntsAre vs ns) (hi' : IntsAre us ms) (e : ns = ms) (hu : A.units + 64 < cLine) (h : Q (.bool false) s) :
    wpAny (model prog w) A (compareOp .NotEq (.ref a) (.ref b)) Q E s := by
  subst e
  refine ne_intsK (News.isList N h1) hi (News.isList N h2) hi' hu ?_
  rw [decide_eq_true rfl]
  exact h
end
theorem law_read_txt (prog : Program) (w : World) (mean : ExcName → Option Value) (mg mb : Str → Option Value) (v : Str) (ts : Tok) (h1 : v.length ≤ 6) (h2 : ∀ c ∈ v.cps.toList, signOk c) : Sp prog w mean mg mb 460 15 [.str (strTxt v) ts] [] (ReadPost (Str.ofString "string") (fun t => .str v t)) :=
  law_read_str prog w mean mg mb v ts (by omega) (fun c hc => (h2 c hc).1) (.inr fun c hc => (h2 c hc).2)
theorem sys_byte (x : Str) : sysTxt (Str.ofString "BYTE") x = Str.ofString "SYSTEM.VAL(BYTE, " ++ x ++ Str.ofString ")" := by
  have e : Str.ofString "SYSTEM" ++ Str.ofString ".VAL(" ++ Str.ofString "BYTE" ++ Str.ofString ", " = Str.ofString "SYSTEM.VAL(BYTE, " := by decide
  unfold sysTxt; rw [e]
theorem sys_char (x : Str) : sysTxt (Str.ofString "CHAR") x = Str.ofString "SYSTEM.VAL(CHAR, " ++ x ++ Str.ofString ")" := by
  have e : Str.ofString "SYSTEM" ++ Str.ofString ".VAL(" ++ Str.ofString "CHAR" ++ Str.ofString ", " = Str.ofString "SYSTEM.VAL(CHAR, " := by decide
  unfold sysTxt; rw [e]
section
variable {prog : Program} {w : World} {A : Around} {E Q : Value → Shared → Prop} {s : Shared} {x y : Str} {t u : Tok}
theorem ne_str_same (e : x = y) (h : Q (.bool false) s) : wpAny (model prog w) A (compareOp .NotEq (.str x t) (.str y u)) Q E s := by
  subst e
  exact ne_str_b (b := true) (beq_self_eq_true x) h
theorem eq_str_same (e : x = y) (h : Q (.bool true) s) : wpAny (model prog w) A (compareOp .Eq (.str x t) (.str y u)) Q E s := by
  subst e
  exact eq_str_b (b := true) (beq_self_eq_true x) h
end
theorem tc_no {b : Bool} {x y : Str} (h : b = false) : (if b = true then x else y) = y := by rw [h]; exact if_neg (by decide)
theorem tc_yes {b : Bool} {x y : Str} (h : b = true) : (if b = true then x else y) = x := by rw [h]; exact if_pos rfl
end Mine
local macro_rules | `(tactic| walk_at "M same") => `(tactic| first | with_reducible rfl | exact sys_byte _ | exact sys_char _ | exact tc_no (by decide) | exact (tc_yes (by decide)).trans (sys_char _) | k_dflt exact tc_no rfl | k_dflt exact (tc_yes rfl).trans (sys_char _))
local macro_rules | `(tactic| walk_at "compareOp NotEq str str") => `(tactic| (k_here; (refine' ne_str_same ?h1 ?_); (case h1 => walk_at "M same")))
local macro_rules | `(tactic| walk_at "compareOp Eq str str") => `(tactic| (k_here; (refine' eq_str_same ?h1 ?_); (case h1 => walk_at "M same")))
local macro_rules | `(tactic| walk_at "compareOp NotEq ref ref") => `(tactic| (k_here; k_dflt (refine' ne_pair ?k1 ?k2 ?k3 ?k4 ?k5 ?k6 ?_; (case k1 => k_asm); (case k2 => k_mem); (case k3 => k_mem); (case k4 => walk_at "M units"); (case k5 => exact string_ok); (case k6 => first | with_reducible assumption | exact chr_ok (by with_reducible assumption)))))
namespace Mine
theorem off3_offN {I C D : Addr} {l : List (Addr × Obj)} (h : LCg.Off3 I C D l) : OffN I (l.map (·.1)) ∧ OffN C (l.map (·.1)) ∧ OffN D (l.map (·.1)) := by
  have h' := h.mem
  refine ⟨fun b hb => ?_, fun b hb => ?_, fun b hb => ?_⟩ <;>
  · obtain ⟨p, hp, rfl⟩ := List.mem_map.mp hb
    have z := h' p hp
    first | exact Ne.symm z.1 | exact Ne.symm z.2.1 | exact Ne.symm z.2.2
theorem off1_offN {D : Addr} : ∀ {l : List (Addr × Obj)}, LCg.Off1 D l → OffN D (l.map (·.1))
  | [], _ => offN_nil
  | _ :: _, h => offN_cons (Ne.symm h.1) (off1_offN h.2)
theorem drawn_fits {i : Nat} {ys : List Value} {zs : List Str} (h : Drawn i ys zs) (hi : i ≤ 6) : (zs.map (·.length)).sum + zs.length ≤ 1000 := by
  obtain ⟨hs, ds, rfl, hl, hd⟩ := h
  have e : ∀ l : List Nat, ((l.map fun n => (⟨#[n]⟩ : Str)).map (·.length)).sum = l.length := by
    intro l
    induction l with
    | nil => rfl
    | cons c r ih => rw [List.map_cons, List.map_cons, List.sum_cons, ih, List.length_cons]; show 1 + _ = _; omega
  have := e ds
  unfold signs
  simp only [List.length_map, List.toList_toArray] at *
  omega
theorem getD_lt {v : Str} (h : ∀ c ∈ v.cps.toList, signOk c) : v.cps.getD 0 0 < 4294967296 := by
  rw [getD_toList]
  cases e : v.cps.toList with
  | nil => decide
  | cons c r =>
    have := (h c (by rw [e]; exact .head _)).1
    show c < _
    omega
abbrev ldLed (L : Addr) (k : Int) (z : TsZ) (tt : Tok) (nz : NmZ) (o0 cf cm : Obj) (l : Addr) (c : List Value × List Int × Nat) : List (Addr × Obj) := lzLed L k ⟨z, tt, nz, o0, cf, cm, l, c.1, c.2.1, c.2.2⟩
def CharInv (i : Nat) (ys : List Value) (c : List Value × List Int × Nat) : Prop := (∃ zs, Drawn i ys zs) ∧ IntsAre c.1 c.2.1 ∧ c.2.1.length ≤ 1000
section
variable {prog : Program} {w : World} {A : Around} {h₀ : Heap} {L : Addr} {m : Str → Option Value} {env : Env} {elt : Expr} {x : Str} {scope : Scope} {cl : List (Str × Addr)} {s : Shared}
theorem src_draws {news : List (Addr × Obj)} {r : Addr} {b : Int} {t u v : Tok} {Q : Value → Shared → Prop} {us : List Value} {ms : List Int} {n : Nat} (z : TsZ) (tt : Tok) (nz : NmZ) (o0 cf cm : Obj) (l : Addr) (hh : A.handled = none) (F : Fr h₀ L s.heap m) (N : News h₀ L s.heap news) (hr : IsRange s.heap r 0 b 1 t u v) (hb0 : 0 ≤ b) (hb : b < 6)
    (hs : ∀ p ∈ ldLed L 7 z tt nz o0 cf cm l (us, ms, n), p ∈ news) (hi : IntsAre us ms) (hl : ms.length ≤ 1000)
    (turn : ∀ (g : Heap) (i : Nat) ys zs (us : List Value) (ms : List Int) (n : Nat) v I oI C oC D m₂ h tk (Q' E' : Value → Shared → Prop), i < 6 → Drawn i ys zs → IntsAre us ms → ms.length ≤ 1000 → LCg.NsObj oC m₂ → m₂ x = some v → Fr h₀ L h m → News h₀ L h ((I, oI) :: (C, oC) :: (D, LCg.lst ys) :: ldLed L 7 z tt nz o0 cf cm l (us, ms, n)) → LCg.Off3 I C D (ldLed L 7 z tt nz o0 cf cm l (us, ms, n)) → ((@Ne Nat I C) ∧ (@Ne Nat I D) ∧ (@Ne Nat C D)) →
      (∀ (y : Value) (h' : Heap) (tk' : Nat) (c' : List Value × List Int × Nat), Fr h₀ L h' m → News h₀ L h' ((I, oI) :: (C, oC) :: (D, LCg.lst ys) :: ldLed L 7 z tt nz o0 cf cm l c') → LCg.Off3 I C D (ldLed L 7 z tt nz o0 cf cm l c') → CharInv (i + 1) (ys ++ [y]) c' → Q' y { s with heap := h', toks := tk' }) →
      wpAny (model prog w) A (eval elt (compEnvC scope cl C env)) Q' E' { s with heap := h, toks := tk })
    (fin : ∀ ys zs (i : Nat) (us : List Value) (ms : List Int) (n : Nat) D h tk, Drawn i ys zs → i ≤ 6 → IntsAre us ms → ms.length ≤ 1000 → Fr h₀ L h m → News h₀ L h ((D, listOf ys.toArray ys.length) :: ldLed L 7 z tt nz o0 cf cm l (us, ms, n)) → LCg.Off1 D (ldLed L 7 z tt nz o0 cf cm l (us, ms, n)) → Q (.ref D) { s with heap := h, toks := tk }) :
    LCg.CompSrc prog w A h₀ L m env elt x scope cl (fun s₂ => LCg.FinE h₀ L m s₂ Q) (.ref r) s := by
  refine LCg.CompSrc.range hh F (news_sub N hs) hr (small_one (by omega) (by omega) (by omega) (by omega)) (rangeSize_nat _ _) (by rw [PySem.sizeLine_eq]; omega) fun g => ?_
  refine rest_inv (fun c => ldLed L 7 z tt nz o0 cf cm l c) CharInv (fun _ => trivial) ?_ ?_ (us, ms, n) ⟨⟨[], drawn_nil⟩, hi, hl⟩
  · rintro i ys ⟨us, ms, n⟩ v I oI C oC D m₂ h tk Q' E' hi ⟨⟨zs, h1⟩, h2, h3⟩ _ hC hx F' N' off ne hQ
    exact turn g i ys zs us ms n v I oI C oC D m₂ h tk Q' E' (by omega) h1 h2 h3 hC hx F' N' off ne hQ
  · rintro ys ⟨us, ms, n⟩ ⟨⟨zs, h1⟩, h2, h3⟩ D h tk F' N' o1
    exact fin ys zs _ us ms n D h tk h1 (by omega) h2 h3 F' N' o1
end
end Mine
local macro_rules | `(tactic| walk_at "CompSrc") => `(tactic| k_extra "M src")
local macro_rules | `(tactic| walk_at "CompSrcT") => `(tactic| k_extra "M src")
namespace Mine
abbrev lmLed (L : Addr) (z : TsZ) (tt : Tok) (nz : NmZ) (o0 cf : Obj) (l : Addr) (c : List Value × List Int × Nat × Obj × Int × Tok) : List (Addr × Obj) := lzLed L 8 ⟨z, tt, nz, o0, cf, c.2.2.2.1, l, c.1, c.2.1, c.2.2.1⟩
def MaskOk (c : List Value × List Int × Nat × Obj × Int × Tok) : Prop := c.2.1.length ≤ 1000 ∧ c.2.2.2.1.data = .cell (some (.int c.2.2.2.2.1 c.2.2.2.2.2)) ∧ 0 ≤ c.2.2.2.2.1 ∧ c.2.2.2.2.1 < 4294967296
theorem ownOff_of {own : List (Addr × Obj)} {as bs : List Addr} (h : OwnOff own as) (hs : ∀ b ∈ bs, b ∈ as) : OwnOff own bs := fun p hp b hb => h p hp b (hs b hb)
section
variable {prog : Program} {w : World} {A : Around} {E : Value → Shared → Prop} {s : Shared} {env : Env} {h₀ : Heap} {x : Str} {body : List Stmt} {Q : Flow → Shared → Prop} {m : Str → Option Value}
theorem mask_loop {L : Addr} {news : List (Addr × Obj)} {r : Addr} {b : Int} {t u v : Tok} {us : List Value} {ms : List Int} {n : Nat} {cm : Obj} {tm : Tok} (z : TsZ) (tt : Tok) (nz : NmZ) (o0 cf : Obj) (l : Addr) (stored : List Str)
    (hL : env.locals = L) (hh : A.handled = none) (F : Fr h₀ L s.heap m) (N : News h₀ L s.heap news) (hr : IsRange s.heap r 0 b 1 t u v) (hb0 : 0 ≤ b) (hb : b < 9)
    (hs : ∀ p ∈ lmLed L z tt nz o0 cf l (us, ms, n, cm, 0, tm), p ∈ news) (hi : IntsAre us ms) (hl : ms.length ≤ 1000) (hc : cm.data = .cell (some (.int 0 tm)))
    (turn : ∀ (us : List Value) (ms : List Int) (n : Nat) (cm : Obj) (mk : Int) (tm : Tok) (k : Int) (t : Tok) (u : Str → Option Value) h tk own (Qt : Flow → Shared → Prop), OwnOff own ((lmLed L z tt nz o0 cf l (us, ms, n, cm, mk, tm)).map (·.1)) → IntsAre us ms → ms.length ≤ 1000 → cm.data = .cell (some (.int mk tm)) → 0 ≤ mk → mk < 4294967296 →
      Fr h₀ L h (fun y => if y = x then some (.int k t) else if stored.contains y then u y else m y) → News h₀ L h (lmLed L z tt nz o0 cf l (us, ms, n, cm, mk, tm) ++ own) →
      (∀ (h' : Heap) (tk' : Nat) (m' : Str → Option Value) (news' : List (Addr × Obj)) (c' : List Value × List Int × Nat × Obj × Int × Tok), Fr h₀ L h' m' → News h₀ L h' news' → (∀ p ∈ lmLed L z tt nz o0 cf l c', p ∈ news') → (∀ p ∈ own, p ∈ news') → (∀ z, z ≠ x → stored.contains z = false → m' z = m z) → IntsAre c'.1 c'.2.1 → MaskOk c' → Qt .next { s with heap := h', toks := tk' }) →
      wpAny (model prog w) A (execs body env) Qt E { s with heap := h, toks := tk })
    (done : ∀ (us : List Value) (ms : List Int) (n : Nat) (cm : Obj) (mk : Int) (tm : Tok) (u : Str → Option Value) h tk, IntsAre us ms → ms.length ≤ 1000 → cm.data = .cell (some (.int mk tm)) → 0 ≤ mk → mk < 4294967296 →
      Fr h₀ L h (fun y => if y = x then u y else if stored.contains y then u y else m y) → News h₀ L h (lmLed L z tt nz o0 cf l (us, ms, n, cm, mk, tm)) → Q .next { s with heap := h, toks := tk }) :
    wpAny (model prog w) A (pyIter (.ref r)) (fun it s₂ => LoopAtV prog w A h₀ env x body Q E it s₂) E s := by
  subst hL
  refine kst_range (σ := List Value × List Int × Nat × Obj × Int × Tok) (fun c => lmLed env.locals z tt nz o0 cf l c) (fun _ => []) (fun c => IntsAre c.1 c.2.1) stored (fun _ c => MaskOk c) (us, ms, n, cm, 0, tm) hh hr (small_one (by omega) (by omega) (by omega) (by omega)) (rangeSize_nat _ _) F (news_sub N hs) hi (fun p hp => nomatch hp) ⟨hl, hc, Int.le_refl _, by show (0 : Int) < 4294967296; decide⟩ ?_ ?_
  · rintro ⟨us, ms, n, cm, mk, tm⟩ pre k t u h tk own _ _ hoff hF ⟨h1, h2, h3, h4⟩ F' N'
    refine turn us ms n cm mk tm k t u h tk own _ hoff hF h1 h2 h3 h4 F' N' ?_
    intro h' tk' m' news' c' F'' N'' a1 a2 a3 a4 a5
    exact kst_end c' F'' N'' a1 a2 rfl a4 (fun p hp => nomatch hp) (fun z z1 _ z3 => a3 z z1 z3) a5
  · rintro ⟨us, ms, n, cm, mk, tm⟩ u h tk hF ⟨h1, h2, h3, h4⟩ F' N'
    exact done us ms n cm mk tm u h tk hF h1 h2 h3 h4 F' N'
end
end Mine
local macro_rules | `(tactic| k_caughtB) => `(tactic| first | exact Mine.cut_3 (by with_reducible assumption) | exact Cut.nil | (refine' Cut.dropIn ?a ?b; (case a => k_dflt k_mem); (case b => k_caughtB)) | (refine' Cut.keep ?a ?b; (case a => k_caughtNB); (case b => k_caughtB)) | exact Cut.own (by assumption))
local macro_rules | `(tactic| k_all) => `(tactic| with_reducible assumption)
namespace Mine
theorem ask_eq {mk : Int} {i : Nat} : ((mk.fdiv (2 ^ ((i : Int)).toNat)).fmod 2 == 1) = decide ((mk.fdiv (2 ^ i)).fmod 2 = 1) := by rw [Int.toNat_natCast]; rfl
section
variable {prog : Program} {w : World} {A : Around} {h₀ : Heap} {L : Addr} {m : Str → Option Value} {env : Env} {ct elt : Expr} {x : Str} {scope : Scope} {cl : List (Str × Addr)} {s : Shared}
theorem src_places {news : List (Addr × Obj)} {r : Addr} {t u v : Tok} {Q : Value → Shared → Prop} (mk : Int) (hh : A.handled = none) (F : Fr h₀ L s.heap m) (N : News h₀ L s.heap news) (hr : IsRange s.heap r 0 32 1 t u v)
    (turn : ∀ (g : Heap) (i : Nat) ys (t : Tok) I oI C oC D m₂ h tk (Qb : Bool → Shared → Prop) (E' : Value → Shared → Prop), i < 32 → LCg.NsObj oC m₂ → m₂ x = some (.int (i : Int) t) → Fr h₀ L h m → News h₀ L h ((I, oI) :: (C, oC) :: (D, LCg.lst ys) :: news) → LCg.Off3 I C D news → ((@Ne Nat I C) ∧ (@Ne Nat I D) ∧ (@Ne Nat C D)) →
      (∀ (b : Bool) (h' : Heap) (tk' : Nat), Fr h₀ L h' m → News h₀ L h' ((I, oI) :: (C, oC) :: (D, LCg.lst ys) :: news) → b = decide ((mk.fdiv (2 ^ i)).fmod 2 = 1) → Qb b { s with heap := h', toks := tk' }) →
      wpAny (model prog w) A (isTrue ct (compEnvC scope cl C env) (eval ct (compEnvC scope cl C env))) Qb E' { s with heap := h, toks := tk })
    (elem : ∀ (g : Heap) (i : Nat) ys (t : Tok) I oI C oC D m₂ h tk (Q' E' : Value → Shared → Prop), LCg.NsObj oC m₂ → m₂ x = some (.int (i : Int) t) → Fr h₀ L h m → News h₀ L h ((I, oI) :: (C, oC) :: (D, LCg.lst ys) :: news) →
      (∀ (h' : Heap) (tk' : Nat), Fr h₀ L h' m → News h₀ L h' ((I, oI) :: (C, oC) :: (D, LCg.lst ys) :: news) → Q' (.int (i : Int) t) { s with heap := h', toks := tk' }) →
      wpAny (model prog w) A (eval elt (compEnvC scope cl C env)) Q' E' { s with heap := h, toks := tk })
    (fin : ∀ ys D h tk, IntsAre ys (elems mk 32) → Fr h₀ L h m → News h₀ L h ((D, listOf ys.toArray ys.length) :: news) → LCg.Off1 D news → Q (.ref D) { s with heap := h, toks := tk }) :
    LCt.CompSrcT prog w A h₀ L m env ct elt x scope cl (fun s₂ => LCg.FinE h₀ L m s₂ Q) (.ref r) s := by
  refine LCt.CompSrcT.range hh F N hr (by decide) (n := 32) (by decide) (by rw [PySem.sizeLine_eq]; decide) fun g => ?_
  refine restT_inv (fun i ys => IntsAre ys (elems mk (i : Int))) trivial ?_ ?_ ?_ (by show IntsAre [] []; exact .nil)
  · rintro i ys v I oI C oC D m₂ h tk Qb E' hi hy ⟨t, rfl⟩ hC hx F' N' off ne q1 q2
    have e0 : (0 : Int) + (i : Int) = (i : Int) := by omega
    rw [e0] at hx q2
    refine turn g i ys t I oI C oC D m₂ h tk Qb E' hi hC hx F' N' off ne ?_
    intro b h' tk' F'' N'' eb
    cases b with
    | true => exact q2 h' tk' F'' N'' (ints_yes hy (of_decide_eq_true eb.symm))
    | false => exact q1 h' tk' F'' N'' (ints_no hy (of_decide_eq_false eb.symm))
  · rintro i ys v I oI C oC D m₂ h tk Q' E' ⟨t, rfl⟩ hC hx F' N' q
    have e0 : (0 : Int) + (i : Int) = (i : Int) := by omega
    rw [e0] at hx q
    exact elem g i ys t I oI C oC D m₂ h tk Q' E' hC hx F' N' q
  · intro ys hy D h tk F' N' o1
    exact fin ys D h tk hy F' N' o1
end
end Mine
local macro_rules | `(tactic| walk_at "compareOp NotEq ref ref") => `(tactic| (k_here; k_dflt (refine' ne_ints_same ?k1 ?k2 ?k3 ?k4 ?k5 ?k6 ?k7 ?_; (case k1 => k_asm); (case k2 => k_mem); (case k3 => k_mem); (case k4 => with_reducible assumption); (case k5 => with_reducible assumption); (case k6 => with_reducible assumption); (case k7 => walk_at "M units"))))
local macro_rules | `(tactic| walk_at "eval ListComp") => `(tactic| (k_here; (with_reducible show wpAny _ _ (eval (Expr.ListComp _ _ _ _) _) _ _ _); lct_look; (refine wait ?_)))
namespace Mine
def Took (prog : Program) (w : World) (nz : NmZ) (o : Obj) (bT bF bC : Bool) : Prop := ∃ kvs D, TabOk prog w nz.s0 o kvs D ∧ (PySem.Spec.lookup (.str (Str.ofString "TRUE")) D).isSome = bT ∧ (PySem.Spec.lookup (.str (Str.ofString "FALSE")) D).isSome = bF ∧ (PySem.Spec.lookup (.str (Str.ofString "CHR")) D).isSome = bC
def TookOne (prog : Program) (w : World) (nz : NmZ) (o : Obj) : Prop := Took prog w nz o true false false ∨ Took prog w nz o false true false ∨ Took prog w nz o false false true
theorem took_true {prog : Program} {w : World} {nz : NmZ} {o : Obj} {v : Value} (T : TabOk prog w nz.s0 o (stored [] (Str.ofString "TRUE") v) (PyProof.V.putD (.str (Str.ofString "TRUE")) (.int (-1)) [])) : TookOne prog w nz o :=
  .inl ⟨_, _, T, by decide +kernel, by decide +kernel, by decide +kernel⟩
theorem took_false {prog : Program} {w : World} {nz : NmZ} {o : Obj} {v : Value} (T : TabOk prog w nz.s0 o (stored [] (Str.ofString "FALSE") v) (PyProof.V.putD (.str (Str.ofString "FALSE")) (.int (-1)) [])) : TookOne prog w nz o :=
  .inr (.inl ⟨_, _, T, by decide +kernel, by decide +kernel, by decide +kernel⟩)
theorem took_chr {prog : Program} {w : World} {nz : NmZ} {o : Obj} {v : Value} (T : TabOk prog w nz.s0 o (stored [] (Str.ofString "CHR") v) (PyProof.V.putD (.str (Str.ofString "CHR")) (.int (-1)) [])) : TookOne prog w nz o :=
  .inr (.inr ⟨_, _, T, by decide +kernel, by decide +kernel, by decide +kernel⟩)
theorem truth_h {b : Bool} (h : b = true) : truthTxt b 0 = Str.ofString "(0 # 0)" := by rw [h]; rfl
theorem truth_n {b : Bool} (h : b = false) : truthTxt b 0 = Str.ofString "FALSE" := by rw [h]; rfl
theorem ret_true {prog : Program} {w : World} {A : Around} {E : Value → Shared → Prop} {s : Shared} {h₀ : Heap} {L : Addr} {m : Str → Option Value} {t : Sem Flow} {Q : Flow → Shared → Prop} (_F : Fr h₀ L s.heap m)
    (h1 : ∀ Q' : Flow → Shared → Prop, (∀ h' tk' m', Fr h₀ L h' m' → Q' (.ret (.bool true)) { s with heap := h', toks := tk' }) → wpAny (model prog w) A t Q' E s)
    (h2 : ∀ h' tk' m', Fr h₀ L h' m' → Q (.ret (.bool true)) { s with heap := h', toks := tk' }) : wpAny (model prog w) A t Q E s := h1 Q h2
structure LzOkB (prog : Program) (w : World) (L : Nat) (c : LZ) : Prop where
  fcell : c.cf.data = .cell (some (.ref c.l))
  fcm : ∃ v0, c.cm.data = .cell v0
  fints : IntsAre c.us c.ms
  flen : c.ms.length ≤ 1000
  fty : TsTy c.z
  fal : TabOk prog w c.nz.al c.nz.oal (alK c.nz) alD
  fsc : TookOne prog w c.nz c.o0
  fsep : SepN (lzAdr L c)
  fnsep : SepN (nmAdr c.nz)
  fne : @Ne Nat c.z.x c.z.dx
end Mine
local macro_rules | `(tactic| walk_at "compareOp NotEq str str") => `(tactic| (k_here; (refine' ne_str_same ?h1 ?_); (case h1 => first | exact truth_h rfl | exact truth_n rfl)))
namespace Mine
theorem end_post (ns : List Int) : PySem.Challenge.rw_nu0342_01.row.claim.post [ofPy (PyData.list (List.map PyData.int ns))] (.bool true) [ofPy (PyData.list (List.map PyData.int ns))] = true := by
  wrow_post
theorem end_none (ns : List Int) : ∀ cls, PySem.Challenge.rw_nu0342_01.row.claim.raises [ofPy (PyData.list (List.map PyData.int ns))] cls = false := by
  refine raisesW_false ?_
  wrow_none_raised
end Mine
namespace Mine
section
variable {prog : Program} {w : World} {A : Around} {E : Value → Shared → Prop} {s : Shared} {env : Env} {h₀ : Heap} {x : Str} {body : List Stmt} {Q : Flow → Shared → Prop} {m : Str → Option Value} {L : Addr}
/-- a loop over made values whose turns leave nothing behind -/
theorem vals_loop {news : List (Addr × Obj)} {l : Addr} {vs : List Value} {nn : Nat} (LedF : Addr → List (Addr × Obj)) (hL : env.locals = L) (hh : A.handled = none) (F : Fr h₀ L s.heap m) (N : News h₀ L s.heap news)
    (hm : (l, listOf vs.toArray nn) ∈ news) (hs : ∀ p ∈ (LedF L), p ∈ news) (hne : ∀ p ∈ (LedF L), p.1 ≠ l)
    (turn : ∀ (v : Value) h tk own (Qt : Flow → Shared → Prop), v ∈ vs → OwnOff own ((LedF L).map (·.1)) → Fr h₀ L h (fun y => if y = x then some v else m y) → News h₀ L h ((LedF L) ++ own) →
      (∀ (h' : Heap) (tk' : Nat) (m' : Str → Option Value) (news' : List (Addr × Obj)), Fr h₀ L h' m' → News h₀ L h' news' → (∀ p ∈ (LedF L), p ∈ news') → (∀ p ∈ own, p ∈ news') → (∀ z, z ≠ x → m' z = m z) → Qt .next { s with heap := h', toks := tk' }) →
      wpAny (model prog w) A (execs body env) Qt E { s with heap := h, toks := tk })
    (done : ∀ (u : Str → Option Value) h tk, Fr h₀ L h (fun y => if y = x then u y else m y) → News h₀ L h (LedF L) → Q .next { s with heap := h, toks := tk }) :
    wpAny (model prog w) A (pyIter (.ref l)) (fun it s₂ => LoopAtV prog w A h₀ env x body Q E it s₂) E s := by
  subst hL
  refine iter_vals (σ := Unit) (nn := nn) (fun _ => LedF env.locals) (fun _ => []) (fun _ => True) [] (fun _ _ => True) () hh F (news_sub N (List.forall_mem_cons.mpr ⟨hm, hs⟩)) hne trivial (fun p hp => nomatch hp) trivial ?_ ?_
  · intro c pre v u h tk own hv _ hoff _ _ F' N'
    refine turn v h tk own _ (List.mem_of_getElem? hv) hoff F' N' ?_
    intro h' tk' m' news' F'' N'' a1 a2 a3
    exact kst_end () F'' N'' a1 a2 rfl trivial (fun p hp => nomatch hp) (fun z z1 _ _ => a3 z z1) trivial
  · intro c u h tk _ _ F' N'
    exact done u h tk F' N'
end
section
variable {prog : Program} {w : World} {A : Around} {E Q : Value → Shared → Prop} {s : Shared}
theorem item_three {value slice : PySem.Expr} {l : Addr} {x y z : Str} {t1 t2 t3 u : Tok} {r : Int} (hl : s.heap.IsList l #[.str x t1, .str y t2, .str z t3]) (h0 : 0 ≤ r) (h3 : r < 3)
    (h : ∀ (nm : Str) (t : Tok), nm = x ∨ nm = y ∨ nm = z → Q (.str nm t) s)
    (hs : subscripted slice false (.ref l) (.int r u) = operate [.ref l, .int r u] (getItem (.ref l) (.int r u)) := by with_unfolding_all rfl) :
    wpAny (model prog w) A (subscriptTail value slice (.ref l) (.int r u)) Q E s := by
  have hr : r = 0 ∨ r = 1 ∨ r = 2 := by omega
  have hlt : r < 2 ^ 63 := by omega
  rcases hr with rfl | rfl | rfl
  · exact tail_any hl.typeIs slot_list_getitem.lookup (wpAny_getItem_list hl h0 hlt (by rfl) (h x t1 (.inl rfl))) hs
  · exact tail_any hl.typeIs slot_list_getitem.lookup (wpAny_getItem_list hl h0 hlt (by rfl) (h y t2 (.inr (.inl rfl)))) hs
  · exact tail_any hl.typeIs slot_list_getitem.lookup (wpAny_getItem_list hl h0 hlt (by rfl) (h z t3 (.inr (.inr rfl)))) hs
end
theorem took_any {prog : Program} {w : World} {nz : NmZ} {o : Obj} {nm : Str} {v : Value} (T : TabOk prog w nz.s0 o (stored [] nm v) (PyProof.V.putD (.str nm) (.int (-1)) [])) (h : nm = Str.ofString "TRUE" ∨ nm = Str.ofString "FALSE" ∨ nm = Str.ofString "CHR") : TookOne prog w nz o := by
  rcases h with rfl | rfl | rfl
  · exact took_true T
  · exact took_false T
  · exact took_chr T
end Mine
local macro_rules | `(tactic| walk_at "subscriptTail List Call ref int") => `(tactic| k_extra "M menu")
local macro_rules | `(tactic| walk_at "subscriptTail List Call") => `(tactic| k_extra "M menu")
local macro_rules | `(tactic| walk_at "subscriptTail List") => `(tactic| k_extra "M menu")
local macro_rules | `(tactic| walk_at "subscriptTail") => `(tactic| k_extra "M menu")
namespace Mine
theorem isLeI {a b : Int} (h : a ≤ b) : a ≤ b := h
theorem isLtI {a b : Int} (h : a < b) : a < b := h
end Mine
local macro_rules | `(tactic| walk_at "M n") => `(tactic| all_goals try ((first | with_reducible apply Mine.isLeI | with_reducible apply Mine.isLtI); walk_at "M len"))
set_option maxRecDepth 100000 in
set_option maxHeartbeats 8000000 in
theorem PySem.Challenge.cw_nu0342_01_holds : PySem.Challenge.rw_nu0342_01.Holds := by
  refine hd ?_
  k_go0
  all_goals try k_fold
  k_with_none
  k_with "M call" => (refine' Mine.u_newL ?_ ?_ ?_ ?_ ?_ ?_ ?_ (Mine.figures_sp _ _ _ _ _ _ _ _ ?_ ?_) ?_ ?_ ?_; walk_at "M b"; with_reducible assumption; walk_at "M a"; omega; walk_at "M d"; intro h9 tk9; refine Mine.FigPost.el ?_; intro l9 us9 ms9 n9 i9 q9 F9 N9 Ol9; dsimp only [List.cons_append, List.nil_append] at N9 Ol9; walk_at "M z")
  k_with "M call" => (refine' Mine.u_new ?_ ?_ ?_ ?_ ?_ ?_  (Mine.types_sp _ _ _ _ _) ?_ ?_ ?_; walk_at "M b"; walk_at "M d"; intro h9 tk9; refine Mine.TypesPost.el ?_; intro z9 t9 T1 T2 T3 T4 T5 S9 F9 N9 O9; (simp only [tsLed, List.forall_mem_cons] at O9); (obtain ⟨u1, u2, u3, u4, u5, u6, u7, u8, u9, u10, u11, u12, -⟩ := O9); (simp only [tsAdr, SepN] at S9); (obtain ⟨s1, s2, s3, s4, s5, s6, s7, s8, s9, s10, s11, -, -⟩ := S9); dsimp only [List.cons_append, List.nil_append, tsLed, tsDict, tsRest] at N9; walk_at "M z")
  k_with "M call" => (refine' Mine.u_new ?_ ?_ ?_ ?_ ?_ ?_  (Mine.names_sp _ _ _ _ _ _) ?_ ?_ ?_; walk_at "M b"; walk_at "M d"; intro h9 tk9; refine Mine.NamesPost.el ?_; intro z9 o9 T1 T2 S9 F9 N9 O9; (simp only [nmLed, List.forall_mem_cons] at O9); (obtain ⟨u1, u2, u3, u4, u5, -⟩ := O9); (have S8 := S9); (simp only [nmAdr, SepN] at S8); (obtain ⟨s1, s2, s3, s4, -, -⟩ := S8); dsimp only [List.cons_append, List.nil_append, nmLed] at N9; walk_at "M z")
  k_with "M call" => (refine' Mine.u_cut ?_ ?_ ?_ ?_ ?_ ?_ ?_ (Mine.draw_sp _ _ _ _ _ _ _ _ _ _ _ ?_ ?_ ?_ ?_) ?_ ?_ ?_ ?_; walk_at "M b"; walk_at "M o"; walk_at "M k"; walk_at "M a"; decide; decide; walk_at "M d"; intro h9 tk9; refine Mine.DrawPost.el ?_; intro us9 ms9 n9 r9 t9 r0 r1 i9 l9 F9 N9; dsimp only [List.cons_append, List.nil_append] at N9; walk_at "M z")
  k_with "M call" => (refine' Mine.u_read ?_ ?_ ?_ ?_ ?_ ?_ ?_ (Mine.ct_int _ _ _ _ _ _ _ _ _ _ _ _ ?_ ?_ ?_) ?_ ?_ ?_; walk_at "M b"; walk_at "M o"; walk_at "M a"; walk_at "M n"; walk_at "M d"; intro h9 tk9; walk_at "M v"; walk_at "M z")
  k_with "M call" => (refine' Mine.u_new ?_ ?_ ?_ ?_ ?_ ?_  (Mine.law_read_whole _ _ _ _ _ _ _ ?_ ?_) ?_ ?_ ?_; walk_at "M b"; walk_at "M l"; walk_at "M l"; walk_at "M d"; intro h9 tk9; refine Mine.ReadPost.el ?_; intro pr9 tq9 tv9 n9 F9 N9 Op9; dsimp only [List.cons_append, List.nil_append, tup2] at N9; walk_at "M z")
  k_with "M call" => (refine' Mine.u_read ?_ ?_ ?_ ?_ ?_ ?_ ?_ (Mine.ct_char _ _ _ _ _ _ _ _ _ _ _ _ ?_ ?_ ?_) ?_ ?_ ?_; walk_at "M b"; walk_at "M o"; walk_at "M a"; walk_at "M n"; walk_at "M d"; intro h9 tk9; walk_at "M v"; walk_at "M z")
  k_with "M call" => (refine' Mine.u_new ?_ ?_ ?_ ?_ ?_ ?_  (Mine.law_read_chr _ _ _ _ _ _ _ ?_ ?_) ?_ ?_ ?_; walk_at "M b"; walk_at "M a"; walk_at "M d"; intro h9 tk9; refine Mine.ReadPost.el ?_; intro pr9 tq9 tv9 n9 F9 N9 Op9; dsimp only [List.cons_append, List.nil_append, tup2] at N9; walk_at "M z")
  k_with "M call" => (refine' Mine.u_read ?_ ?_ ?_ ?_ ?_ ?_ ?_ (Mine.ct_byte _ _ _ _ _ (.mk ..) _ _ _ _ _ _ _ ?_ ?_ ?_ ?_ ?_) ?_ ?_ ?_; walk_at "M b"; walk_at "M o"; walk_at "M a"; walk_at "M n"; walk_at "M d"; intro h9 tk9; walk_at "M v"; walk_at "M z")
  k_with "M call" => (refine' Mine.u_read ?_ ?_ ?_ ?_ ?_ ?_ ?_ (Mine.ct_str _ _ _ _ _ _ _ _ _ _ _ _ ?_ ?_ ?_) ?_ ?_ ?_; walk_at "M b"; walk_at "M o"; walk_at "M a"; walk_at "M d"; intro h9 tk9; walk_at "M v"; walk_at "M z")
  k_with "M call" => (refine' Mine.u_new ?_ ?_ ?_ ?_ ?_ ?_  (Mine.law_read_txt _ _ _ _ _ _ _ ?_ ?_) ?_ ?_ ?_; walk_at "M b"; walk_at "M a"; walk_at "M d"; intro h9 tk9; refine Mine.ReadPost.el ?_; intro pr9 tq9 tv9 n9 F9 N9 Op9; dsimp only [List.cons_append, List.nil_append, tup2] at N9; walk_at "M z")
  k_with "M call" => (refine' Mine.u_cutO ?_ ?_ ?_ ?_ ?_ ?_ ?_ (Mine.tstr_sp _ _ _ _ _ (.mk ..) _ _ _ ?_) ?_ ?_ ?_ ?_; walk_at "M b"; walk_at "M o"; walk_at "M k"; (first | with_reducible assumption | k_ne); walk_at "M d"; intro h9 tk9; refine Mine.TStrPost.el ?_; intro y9 dy9 od9 tf9 t9 D9 l9 n1 n2 n3 n4 F9 N9 Oy9 Od9; dsimp only [List.cons_append, List.nil_append, tsDict, tsRest] at N9 Oy9 Od9; walk_at "M z")
  k_with "M call" => (refine' Mine.u_read ?_ ?_ ?_ ?_ ?_ ?_ ?_ (Mine.ct_set _ _ _ _ _ _ _ _ _ _ _ _ ?_) ?_ ?_ ?_; walk_at "M b"; walk_at "M o"; walk_at "M a"; walk_at "M d"; intro h9 tk9; refine Mine.SetPost.el2 ?_; intro rs9 t9 r9 f9 F9 N9; walk_at "M z")
  k_with "M call" => (refine' Mine.u_new ?_ ?_ ?_ ?_ ?_ ?_  (Mine.elems_sp _ _ _ _ _ _ _ _ ?_ ?_) ?_ ?_ ?_; walk_at "M b"; walk_at "M a"; walk_at "M d"; intro h9 tk9; refine Mine.ElPost.el ?_; intro D9 us9 n9 I9 F9 N9 OD9; dsimp only [List.cons_append, List.nil_append] at N9 OD9; walk_at "M z")
  k_with "M call" => (refine' Mine.u_read ?_ ?_ ?_ ?_ ?_ ?_ ?_ (Mine.ct_bool _ _ _ _ _ (.mk ..) _ _ _ _ _ _ _ _ _ _ _ ?_ ?_ ?_ ?_ ?_) ?_ ?_ ?_; walk_at "M b"; walk_at "M o"; walk_at "M a"; walk_at "M e"; walk_at "M d"; intro h9 tk9; walk_at "M v"; walk_at "M z")
  k_with "M call" => (refine' Mine.u_read ?_ ?_ ?_ ?_ ?_ ?_ ?_ (Mine.tc_char _ _ _ _ _ (.mk ..) _ _ _ _ _ _ _ _ _ _ ?_ ?_ ?_ ?_ ?_ ?_ ?_) ?_ ?_ ?_; walk_at "M b"; walk_at "M o"; walk_at "M a"; walk_at "M e"; walk_at "M n"; walk_at "M d"; intro h9 tk9; walk_at "M v"; walk_at "M z")
  k_with "M call" => (refine' Mine.u_read ?_ ?_ ?_ ?_ ?_ ?_ ?_ (Mine.taken_sp _ _ _ _ _ (.mk ..) _ _ _ _ _ _ ?_ ?_ ?_) ?_ ?_ ?_; walk_at "M b"; walk_at "M o"; walk_at "M a"; walk_at "M e"; walk_at "M d"; intro h9 tk9; walk_at "M v"; walk_at "M z")
  k_with "M call" => (refine' Mine.u_cut ?_ ?_ ?_ ?_ ?_ ?_ ?_ (Mine.enter_sp _ _ _ _ _ (.mk ..) _ _ _ _ ?_ ?_) ?_ ?_ ?_ ?_; walk_at "M b"; walk_at "M o"; walk_at "M k"; walk_at "M a"; walk_at "M d"; intro h9 tk9; refine Mine.EnterPost.el ?_; intro o9 t9 T9 F9 N9; dsimp only [nmLed, List.cons_append, List.nil_append] at N9; walk_at "M z")
  rename Fr _ _ _ _ => F0
  rename News _ _ _ _ => N0
  refine seg_law F0 (fun c => [(Str.ofString "names", .ref c.1.nz.x), (Str.ofString "types", .ref c.1.z.x), (Str.ofString "number", .int c.2.1 c.2.2)]) (fun L c => lzLed L 7 c.1) (fun c => True) 4 ?_ ?_
  · intro Q' hret
    simp only [List.take_succ_cons, List.take_zero]
    (repeat' (first | (k_unfold; (try dsimp only)) | (k_end; wrow_close) | (walk1; (try dsimp only)) | (dsimp only; walk1) | (leave1; (try dsimp only)) | fail "no step"))
    refine' hret _ (Snap.intro ⟨⟨_, _, _, _, _, _, _, _, _, _⟩, _, _⟩ ?hF ?hN ?he ?hs ⟨⟨?f1, ?f0, ?f2, ?f3, ?f4, ?f5, ?f6, ?f7, ?f8, ?f9⟩, ?zz9⟩)
    case hF => assumption
    case hN => assumption
    case he => kst_all
    case hs => (dsimp only [lzLed, nmLed, tsLed, tsDict, tsRest, List.cons_append, List.nil_append]; walk_at "M in")
    case f1 => with_reducible assumption
    case f0 => exact ⟨_, by with_reducible assumption⟩
    case f2 => with_reducible assumption
    case f3 => with_reducible assumption
    case f4 => first | exact ktys | exact ⟨by with_reducible assumption, by with_reducible assumption, by with_reducible assumption, by with_reducible assumption, by with_reducible assumption⟩
    case f5 => with_reducible assumption
    case f6 => with_reducible assumption
    case f7 => first | exact kse | (dsimp only [lzAdr, nmAdr, tsAdr, List.cons_append, List.nil_append]; k_subL)
    case f8 => with_reducible assumption
    case f9 => first | exact kne | k_ne
    case zz9 => trivial
  clear F0 N0
  intro z tt nz o0 cf cm l us ms n xn tn h9 tk9 m9 v0 F9 N9 kcell kcm kints klen ktys kt1 kt2 kt3 kt4 kt5 kal ksc kse q1 q2 q3 q4 q5 q6 q7 q8 q9 q10 q11 q12 q13 q14 q15 q16 q17 q18 q19 q20 knsep kne kx
  dsimp only [lzLed, nmLed, tsLed, tsDict, tsRest, List.cons_append, List.nil_append] at N9
  dsimp only [kstB] at F9
  (try dsimp only at kx)
  simp only [List.drop_succ_cons, List.drop_zero]
  refine seg_law F9 (fun c => [(Str.ofString "names", .ref c.1.nz.x), (Str.ofString "types", .ref c.1.z.x), (Str.ofString "number", .int c.2.1 c.2.2)]) (fun L c => lzLed L 7 c.1) (fun c => -2147483648 ≤ c.2.1 ∧ c.2.1 < 2147483648) 2 ?_ ?_
  · intro Q' hret
    simp only [List.take_succ_cons, List.take_zero]
    (repeat' (first | (k_unfold; (try dsimp only)) | (k_end; wrow_close) | (walk1; (try dsimp only)) | (dsimp only; walk1) | (leave1; (try dsimp only)) | fail "no step"))
    all_goals
      refine' hret _ (Snap.intro ⟨⟨z, tt, nz, o0, cf, cm, l, _, _, _⟩, _, _⟩ ?hF ?hN ?he ?hs ⟨⟨?f1, ?f0, ?f2, ?f3, ?f4, ?f5, ?f6, ?f7, ?f8, ?f9⟩, ?zz9⟩)
      case hF => assumption
      case hN => assumption
      case he => kst_all
      case hs => (dsimp only [lzLed, nmLed, tsLed, tsDict, tsRest, List.cons_append, List.nil_append]; walk_at "M in")
      case f1 => with_reducible assumption
      case f0 => exact ⟨_, by with_reducible assumption⟩
      case f2 => with_reducible assumption
      case f3 => with_reducible assumption
      case f4 => first | exact ktys | exact ⟨by with_reducible assumption, by with_reducible assumption, by with_reducible assumption, by with_reducible assumption, by with_reducible assumption⟩
      case f5 => with_reducible assumption
      case f6 => with_reducible assumption
      case f7 => first | exact kse | (dsimp only [lzAdr, nmAdr, tsAdr, List.cons_append, List.nil_append]; k_subL)
      case f8 => with_reducible assumption
      case f9 => first | exact kne | k_ne
      case zz9 => exact ⟨by (dsimp only; omega), by (dsimp only; omega)⟩
  clear F9 N9 kcell kcm kints klen kal ksc knsep kne kx ktys kse kt1 kt2 kt3 kt4 kt5 q1 q2 q3 q4 q5 q6 q7 q8 q9 q10 q11 q12 q13 q14 q15 q16 q17 q18 q19 q20
  intro z tt nz o0 cf cm l us ms n xn tn h9 tk9 m9 v0 F9 N9 kcell kcm kints klen ktys kt1 kt2 kt3 kt4 kt5 kal ksc kse q1 q2 q3 q4 q5 q6 q7 q8 q9 q10 q11 q12 q13 q14 q15 q16 q17 q18 q19 q20 knsep kne kx
  dsimp only [lzLed, nmLed, tsLed, tsDict, tsRest, List.cons_append, List.nil_append] at N9
  dsimp only [kstB] at F9
  (try dsimp only at kx)
  simp only [List.drop_succ_cons, List.drop_zero]
  refine seg_law F9 (fun c => [(Str.ofString "names", .ref c.1.nz.x), (Str.ofString "types", .ref c.1.z.x)]) (fun L c => lzLed L 7 c.1) (fun c => True) 1 ?_ ?_
  · intro Q' hret
    simp only [List.take_succ_cons, List.take_zero]
    (repeat' (first | (k_unfold; (try dsimp only)) | (k_end; wrow_close) | (walk1; (try dsimp only)) | (dsimp only; walk1) | (leave1; (try dsimp only)) | fail "no step"))
    refine' hret _ (Snap.intro ⟨⟨z, tt, nz, o0, cf, cm, l, us, ms, n⟩, xn, tn⟩ ?hF ?hN ?he ?hs ⟨⟨?f1, ?f0, ?f2, ?f3, ?f4, ?f5, ?f6, ?f7, ?f8, ?f9⟩, ?zz9⟩)
    case hF => assumption
    case hN => assumption
    case he => kst_all
    case hs => (dsimp only [lzLed, nmLed, tsLed, tsDict, tsRest, List.cons_append, List.nil_append]; walk_at "M in")
    case f1 => with_reducible assumption
    case f0 => exact ⟨_, by with_reducible assumption⟩
    case f2 => with_reducible assumption
    case f3 => with_reducible assumption
    case f4 => first | exact ktys | exact ⟨by with_reducible assumption, by with_reducible assumption, by with_reducible assumption, by with_reducible assumption, by with_reducible assumption⟩
    case f5 => with_reducible assumption
    case f6 => with_reducible assumption
    case f7 => first | exact kse | (dsimp only [lzAdr, nmAdr, tsAdr, List.cons_append, List.nil_append]; k_subL)
    case f8 => with_reducible assumption
    case f9 => first | exact kne | k_ne
    case zz9 => trivial
  clear F9 N9 kcell kcm kints klen kal ksc knsep kne kx ktys kse kt1 kt2 kt3 kt4 kt5 q1 q2 q3 q4 q5 q6 q7 q8 q9 q10 q11 q12 q13 q14 q15 q16 q17 q18 q19 q20
  intro z tt nz o0 cf cm l us ms n xn tn h9 tk9 m9 v0 F9 N9 kcell kcm kints klen ktys kt1 kt2 kt3 kt4 kt5 kal ksc kse q1 q2 q3 q4 q5 q6 q7 q8 q9 q10 q11 q12 q13 q14 q15 q16 q17 q18 q19 q20 knsep kne kx
  dsimp only [lzLed, nmLed, tsLed, tsDict, tsRest, List.cons_append, List.nil_append] at N9
  dsimp only [kstB] at F9
  (try dsimp only at kx)
  simp only [List.drop_succ_cons, List.drop_zero]
  refine seg_law F9 (fun c => [(Str.ofString "names", .ref c.1.nz.x), (Str.ofString "types", .ref c.1.z.x), (Str.ofString "code", .int c.2.1 c.2.2)]) (fun L c => lzLed L 7 c.1) (fun c => 0 ≤ c.2.1 ∧ c.2.1 < 256) 4 ?_ ?_
  · intro Q' hret
    simp only [List.take_succ_cons, List.take_zero]
    (repeat' (first | (k_unfold; (try dsimp only)) | (k_end; wrow_close) | (walk1; (try dsimp only)) | (dsimp only; walk1) | (leave1; (try dsimp only)) | fail "no step"))
    refine' hret _ (Snap.intro ⟨⟨z, tt, nz, o0, cf, cm, l, _, _, _⟩, _, _⟩ ?hF ?hN ?he ?hs ⟨⟨?f1, ?f0, ?f2, ?f3, ?f4, ?f5, ?f6, ?f7, ?f8, ?f9⟩, ?zz9⟩)
    case hF => assumption
    case hN => assumption
    case he => kst_all
    case hs => (dsimp only [lzLed, nmLed, tsLed, tsDict, tsRest, List.cons_append, List.nil_append]; walk_at "M in")
    case f1 => with_reducible assumption
    case f0 => exact ⟨_, by with_reducible assumption⟩
    case f2 => with_reducible assumption
    case f3 => with_reducible assumption
    case f4 => first | exact ktys | exact ⟨by with_reducible assumption, by with_reducible assumption, by with_reducible assumption, by with_reducible assumption, by with_reducible assumption⟩
    case f5 => with_reducible assumption
    case f6 => with_reducible assumption
    case f7 => first | exact kse | (dsimp only [lzAdr, nmAdr, tsAdr, List.cons_append, List.nil_append]; k_subL)
    case f8 => with_reducible assumption
    case f9 => first | exact kne | k_ne
    case zz9 => exact ⟨by with_reducible assumption, by with_reducible assumption⟩
  clear F9 N9 kcell kcm kints klen kal ksc knsep kne kx ktys kse kt1 kt2 kt3 kt4 kt5 q1 q2 q3 q4 q5 q6 q7 q8 q9 q10 q11 q12 q13 q14 q15 q16 q17 q18 q19 q20
  intro z tt nz o0 cf cm l us ms n xn tn h9 tk9 m9 v0 F9 N9 kcell kcm kints klen ktys kt1 kt2 kt3 kt4 kt5 kal ksc kse q1 q2 q3 q4 q5 q6 q7 q8 q9 q10 q11 q12 q13 q14 q15 q16 q17 q18 q19 q20 knsep kne kx
  dsimp only [lzLed, nmLed, tsLed, tsDict, tsRest, List.cons_append, List.nil_append] at N9
  dsimp only [kstB] at F9
  (try dsimp only at kx)
  simp only [List.drop_succ_cons, List.drop_zero]
  refine seg_law F9 (fun c => [(Str.ofString "names", .ref c.1.nz.x), (Str.ofString "types", .ref c.1.z.x), (Str.ofString "code", .int c.2.1 c.2.2)]) (fun L c => lzLed L 8 c.1) (fun c => 0 ≤ c.2.1 ∧ c.2.1 < 256) 2 ?_ ?_
  · intro Q' hret
    simp only [List.take_succ_cons, List.take_zero]
    k_with "M src" => (refine waitP ?_)
    (repeat' (first | (k_unfold; (try dsimp only)) | (k_end; wrow_close) | (walk1; (try dsimp only)) | (dsimp only; walk1) | (leave1; (try dsimp only)) | fail "no step"))
    unfold WaitP
    k_with_none
    k_with "M call" => (refine' Mine.u_newL ?_ ?_ ?_ ?_ ?_ ?_ ?_ (Mine.figures_sp _ _ _ _ _ _ _ _ ?_ ?_) ?_ ?_ ?_; walk_at "M b"; with_reducible assumption; walk_at "M a"; omega; walk_at "M d"; intro h9 tk9; refine Mine.FigPost.el ?_; intro l9 us9 ms9 n9 i9 q9 F9 N9 Ol9; dsimp only [List.cons_append, List.nil_append] at N9 Ol9; walk_at "M z")
    k_with "M call" => (refine' Mine.u_new ?_ ?_ ?_ ?_ ?_ ?_  (Mine.types_sp _ _ _ _ _) ?_ ?_ ?_; walk_at "M b"; walk_at "M d"; intro h9 tk9; refine Mine.TypesPost.el ?_; intro z9 t9 T1 T2 T3 T4 T5 S9 F9 N9 O9; (simp only [tsLed, List.forall_mem_cons] at O9); (obtain ⟨u1, u2, u3, u4, u5, u6, u7, u8, u9, u10, u11, u12, -⟩ := O9); (simp only [tsAdr, SepN] at S9); (obtain ⟨s1, s2, s3, s4, s5, s6, s7, s8, s9, s10, s11, -, -⟩ := S9); dsimp only [List.cons_append, List.nil_append, tsLed, tsDict, tsRest] at N9; walk_at "M z")
    k_with "M call" => (refine' Mine.u_new ?_ ?_ ?_ ?_ ?_ ?_  (Mine.names_sp _ _ _ _ _ _) ?_ ?_ ?_; walk_at "M b"; walk_at "M d"; intro h9 tk9; refine Mine.NamesPost.el ?_; intro z9 o9 T1 T2 S9 F9 N9 O9; (simp only [nmLed, List.forall_mem_cons] at O9); (obtain ⟨u1, u2, u3, u4, u5, -⟩ := O9); (have S8 := S9); (simp only [nmAdr, SepN] at S8); (obtain ⟨s1, s2, s3, s4, -, -⟩ := S8); dsimp only [List.cons_append, List.nil_append, nmLed] at N9; walk_at "M z")
    k_with "M call" => (refine' Mine.u_cut ?_ ?_ ?_ ?_ ?_ ?_ ?_ (Mine.draw_sp _ _ _ _ _ _ _ _ _ _ _ ?_ ?_ ?_ ?_) ?_ ?_ ?_ ?_; walk_at "M b"; walk_at "M o"; walk_at "M k"; walk_at "M a"; decide; decide; walk_at "M d"; intro h9 tk9; refine Mine.DrawPost.el ?_; intro us9 ms9 n9 r9 t9 r0 r1 i9 l9 F9 N9; dsimp only [List.cons_append, List.nil_append] at N9; walk_at "M z")
    k_with "M call" => (refine' Mine.u_read ?_ ?_ ?_ ?_ ?_ ?_ ?_ (Mine.ct_int _ _ _ _ _ _ _ _ _ _ _ _ ?_ ?_ ?_) ?_ ?_ ?_; walk_at "M b"; walk_at "M o"; walk_at "M a"; walk_at "M n"; walk_at "M d"; intro h9 tk9; walk_at "M v"; walk_at "M z")
    k_with "M call" => (refine' Mine.u_new ?_ ?_ ?_ ?_ ?_ ?_  (Mine.law_read_whole _ _ _ _ _ _ _ ?_ ?_) ?_ ?_ ?_; walk_at "M b"; walk_at "M l"; walk_at "M l"; walk_at "M d"; intro h9 tk9; refine Mine.ReadPost.el ?_; intro pr9 tq9 tv9 n9 F9 N9 Op9; dsimp only [List.cons_append, List.nil_append, tup2] at N9; walk_at "M z")
    k_with "M call" => (refine' Mine.u_read ?_ ?_ ?_ ?_ ?_ ?_ ?_ (Mine.ct_char _ _ _ _ _ _ _ _ _ _ _ _ ?_ ?_ ?_) ?_ ?_ ?_; walk_at "M b"; walk_at "M o"; walk_at "M a"; walk_at "M n"; walk_at "M d"; intro h9 tk9; walk_at "M v"; walk_at "M z")
    k_with "M call" => (refine' Mine.u_new ?_ ?_ ?_ ?_ ?_ ?_  (Mine.law_read_chr _ _ _ _ _ _ _ ?_ ?_) ?_ ?_ ?_; walk_at "M b"; walk_at "M a"; walk_at "M d"; intro h9 tk9; refine Mine.ReadPost.el ?_; intro pr9 tq9 tv9 n9 F9 N9 Op9; dsimp only [List.cons_append, List.nil_append, tup2] at N9; walk_at "M z")
    k_with "M call" => (refine' Mine.u_read ?_ ?_ ?_ ?_ ?_ ?_ ?_ (Mine.ct_byte _ _ _ _ _ (.mk ..) _ _ _ _ _ _ _ ?_ ?_ ?_ ?_ ?_) ?_ ?_ ?_; walk_at "M b"; walk_at "M o"; walk_at "M a"; walk_at "M n"; walk_at "M d"; intro h9 tk9; walk_at "M v"; walk_at "M z")
    k_with "M call" => (refine' Mine.u_read ?_ ?_ ?_ ?_ ?_ ?_ ?_ (Mine.ct_str _ _ _ _ _ _ _ _ _ _ _ _ ?_ ?_ ?_) ?_ ?_ ?_; walk_at "M b"; walk_at "M o"; walk_at "M a"; walk_at "M d"; intro h9 tk9; walk_at "M v"; walk_at "M z")
    k_with "M call" => (refine' Mine.u_new ?_ ?_ ?_ ?_ ?_ ?_  (Mine.law_read_txt _ _ _ _ _ _ _ ?_ ?_) ?_ ?_ ?_; walk_at "M b"; walk_at "M a"; walk_at "M d"; intro h9 tk9; refine Mine.ReadPost.el ?_; intro pr9 tq9 tv9 n9 F9 N9 Op9; dsimp only [List.cons_append, List.nil_append, tup2] at N9; walk_at "M z")
    k_with "M call" => (refine' Mine.u_cutO ?_ ?_ ?_ ?_ ?_ ?_ ?_ (Mine.tstr_sp _ _ _ _ _ (.mk ..) _ _ _ ?_) ?_ ?_ ?_ ?_; walk_at "M b"; walk_at "M o"; walk_at "M k"; (first | with_reducible assumption | k_ne); walk_at "M d"; intro h9 tk9; refine Mine.TStrPost.el ?_; intro y9 dy9 od9 tf9 t9 D9 l9 n1 n2 n3 n4 F9 N9 Oy9 Od9; dsimp only [List.cons_append, List.nil_append, tsDict, tsRest] at N9 Oy9 Od9; walk_at "M z")
    k_with "M call" => (refine' Mine.u_read ?_ ?_ ?_ ?_ ?_ ?_ ?_ (Mine.ct_set _ _ _ _ _ _ _ _ _ _ _ _ ?_) ?_ ?_ ?_; walk_at "M b"; walk_at "M o"; walk_at "M a"; walk_at "M d"; intro h9 tk9; refine Mine.SetPost.el2 ?_; intro rs9 t9 r9 f9 F9 N9; walk_at "M z")
    k_with "M call" => (refine' Mine.u_new ?_ ?_ ?_ ?_ ?_ ?_  (Mine.elems_sp _ _ _ _ _ _ _ _ ?_ ?_) ?_ ?_ ?_; walk_at "M b"; walk_at "M a"; walk_at "M d"; intro h9 tk9; refine Mine.ElPost.el ?_; intro D9 us9 n9 I9 F9 N9 OD9; dsimp only [List.cons_append, List.nil_append] at N9 OD9; walk_at "M z")
    k_with "M call" => (refine' Mine.u_read ?_ ?_ ?_ ?_ ?_ ?_ ?_ (Mine.ct_bool _ _ _ _ _ (.mk ..) _ _ _ _ _ _ _ _ _ _ _ ?_ ?_ ?_ ?_ ?_) ?_ ?_ ?_; walk_at "M b"; walk_at "M o"; walk_at "M a"; walk_at "M e"; walk_at "M d"; intro h9 tk9; walk_at "M v"; walk_at "M z")
    k_with "M call" => (refine' Mine.u_read ?_ ?_ ?_ ?_ ?_ ?_ ?_ (Mine.tc_char _ _ _ _ _ (.mk ..) _ _ _ _ _ _ _ _ _ _ ?_ ?_ ?_ ?_ ?_ ?_ ?_) ?_ ?_ ?_; walk_at "M b"; walk_at "M o"; walk_at "M a"; walk_at "M e"; walk_at "M n"; walk_at "M d"; intro h9 tk9; walk_at "M v"; walk_at "M z")
    k_with "M call" => (refine' Mine.u_read ?_ ?_ ?_ ?_ ?_ ?_ ?_ (Mine.taken_sp _ _ _ _ _ (.mk ..) _ _ _ _ _ _ ?_ ?_ ?_) ?_ ?_ ?_; walk_at "M b"; walk_at "M o"; walk_at "M a"; walk_at "M e"; walk_at "M d"; intro h9 tk9; walk_at "M v"; walk_at "M z")
    k_with "M call" => (refine' Mine.u_cut ?_ ?_ ?_ ?_ ?_ ?_ ?_ (Mine.enter_sp _ _ _ _ _ (.mk ..) _ _ _ _ ?_ ?_) ?_ ?_ ?_ ?_; walk_at "M b"; walk_at "M o"; walk_at "M k"; walk_at "M a"; walk_at "M d"; intro h9 tk9; refine Mine.EnterPost.el ?_; intro o9 t9 T9 F9 N9; dsimp only [nmLed, List.cons_append, List.nil_append] at N9; walk_at "M z")
    rename IsRange _ _ _ _ _ _ _ _ => rg5
    rename Fr _ _ _ _ => F5
    rename News _ _ _ _ => N5
    rename IntsAre _ _ => i5
    k_dflt refine' src_draws z tt nz o0 cf cm l (by rfl) F5 N5 rg5 (by omega) (by omega) ?hs i5 (by omega) ?turn ?fin
    case hs => (dsimp only [ldLed, lzLed, nmLed, tsLed, tsDict, tsRest, List.cons_append, List.nil_append]; walk_at "M in")
    case turn =>
      clear F5 N5 i5 rg5 hret
      intro g i ys zs us7 ms7 n7 v I oI C oC D m2 h tk Q7 E7 hi7 hDr hI7 hL7 hC7 hx7 F7 N7 off7 ne7 hQ
      have o7 := off3_offN off7
      simp only [ldLed, lzLed, nmLed, tsLed, tsDict, tsRest, List.cons_append, List.nil_append, List.map_cons, List.map_nil] at o7
      obtain ⟨o1, o2, o3⟩ := o7
      obtain ⟨e1, e2, e3⟩ := ne7
      dsimp only [ldLed, lzLed, nmLed, tsLed, tsDict, tsRest, List.cons_append, List.nil_append] at N7
      (repeat' (first | (k_unfold; (try dsimp only)) | (k_end; wrow_close) | (walk1; (try dsimp only)) | (dsimp only; walk1) | (leave1; (try dsimp only)) | fail "no step"))
      rename News _ _ _ _ => N8
      refine' hQ _ _ _ (_, _, _) ?tF9 ?tN9 ?to9 ⟨⟨_, drawn_snoc hDr ?t09 ?t19⟩, ?ti9, ?tl9⟩
      case tF9 => assumption
      case tN9 => exact news_sub N8 (by (dsimp only [ldLed, lzLed, nmLed, tsLed, tsDict, tsRest, List.cons_append, List.nil_append]; walk_at "M in"))
      case to9 => exact off7
      case t09 => with_reducible assumption
      case t19 => with_reducible assumption
      case ti9 => with_reducible assumption
      case tl9 => with_reducible assumption
    case fin =>
      clear F5 N5 i5 rg5
      intro ys zs i us7 ms7 n7 D h tk hDr hi7 hI7 hL7 F7 N7 o7
      replace o7 := off1_offN o7
      simp only [ldLed, lzLed, nmLed, tsLed, tsDict, tsRest, List.cons_append, List.nil_append, List.map_cons, List.map_nil] at o7
      dsimp only [ldLed, lzLed, nmLed, tsLed, tsDict, tsRest, List.cons_append, List.nil_append] at N7
      have hft := drawn_fits hDr hi7
      have hst := hDr.1
      obtain ⟨_, rfl, hv1, hv2⟩ := drawn_text hDr hi7
      have hv3 := str_ok fun c hc => (hv2 c hc).1
      have hv4 := getD_lt hv2
      have hv5 : (Txt.join (Str.ofString "") zs).length < 1000 := by omega
      (try k_fold)
      (repeat' (first | (k_unfold; (try dsimp only)) | (k_end; wrow_close) | (walk1; (try dsimp only)) | (dsimp only; walk1) | (leave1; (try dsimp only)) | fail "no step"))
      refine' hret _ (Snap.intro ⟨⟨z, _, nz, o0, cf, cm, l, _, _, _⟩, xn, tn⟩ ?hF ?hN ?he ?hs ⟨⟨?f1, ?f0, ?f2, ?f3, ?f4, ?f5, ?f6, ?f7, ?f8, ?f9⟩, ?zz9⟩)
      case hF => assumption
      case hN => assumption
      case he => kst_all
      case hs => (dsimp only [lzLed, nmLed, tsLed, tsDict, tsRest, List.cons_append, List.nil_append]; walk_at "M in")
      case f1 => with_reducible assumption
      case f0 => exact ⟨_, by with_reducible assumption⟩
      case f2 => with_reducible assumption
      case f3 => with_reducible assumption
      case f4 => first | exact ktys | exact ⟨by with_reducible assumption, by with_reducible assumption, by with_reducible assumption, by with_reducible assumption, by with_reducible assumption⟩
      case f5 => with_reducible assumption
      case f6 => with_reducible assumption
      case f7 => first | exact kse | (dsimp only [lzAdr, nmAdr, tsAdr, List.cons_append, List.nil_append]; k_subL)
      case f8 => with_reducible assumption
      case f9 => first | exact kne | k_ne
      case zz9 => exact kx
  clear F9 N9 kcell kcm kints klen kal ksc knsep kne kx ktys kse kt1 kt2 kt3 kt4 kt5 q1 q2 q3 q4 q5 q6 q7 q8 q9 q10 q11 q12 q13 q14 q15 q16 q17 q18 q19 q20
  intro z tt nz o0 cf cm l us ms n xn tn h9 tk9 m9 v0 F9 N9 kcell kcm kints klen ktys kt1 kt2 kt3 kt4 kt5 kal ksc kse q1 q2 q3 q4 q5 q6 q7 q8 q9 q10 q11 q12 q13 q14 q15 q16 q17 q18 q19 q20 knsep kne kx
  dsimp only [lzLed, nmLed, tsLed, tsDict, tsRest, List.cons_append, List.nil_append] at N9
  dsimp only [kstB] at F9
  (try dsimp only at kx)
  simp only [List.drop_succ_cons, List.drop_zero]
  refine seg_law F9 (fun c => [(Str.ofString "names", .ref c.1.nz.x), (Str.ofString "types", .ref c.1.z.x), (Str.ofString "code", .int c.2.1 c.2.2)]) (fun L c => lzLed L 8 c.1) (fun c => (0 ≤ c.2.1 ∧ c.2.1 < 256) ∧ ∃ (mk : Int) (tm : Tok), c.1.cm.data = .cell (some (.int mk tm)) ∧ 0 ≤ mk ∧ mk < 4294967296) 2 ?_ ?_
  · intro Q' hret
    simp only [List.take_succ_cons, List.take_zero]
    k_with "M iter" => (refine wait ?_)
    (repeat' (first | (k_unfold; (try dsimp only)) | (k_end; wrow_close) | (walk1; (try dsimp only)) | (dsimp only; walk1) | (leave1; (try dsimp only)) | fail "no step"))
    unfold waitT
    k_with_none
    k_with "M call" => (refine' Mine.u_newL ?_ ?_ ?_ ?_ ?_ ?_ ?_ (Mine.figures_sp _ _ _ _ _ _ _ _ ?_ ?_) ?_ ?_ ?_; walk_at "M b"; with_reducible assumption; walk_at "M a"; omega; walk_at "M d"; intro h9 tk9; refine Mine.FigPost.el ?_; intro l9 us9 ms9 n9 i9 q9 F9 N9 Ol9; dsimp only [List.cons_append, List.nil_append] at N9 Ol9; walk_at "M z")
    k_with "M call" => (refine' Mine.u_new ?_ ?_ ?_ ?_ ?_ ?_  (Mine.types_sp _ _ _ _ _) ?_ ?_ ?_; walk_at "M b"; walk_at "M d"; intro h9 tk9; refine Mine.TypesPost.el ?_; intro z9 t9 T1 T2 T3 T4 T5 S9 F9 N9 O9; (simp only [tsLed, List.forall_mem_cons] at O9); (obtain ⟨u1, u2, u3, u4, u5, u6, u7, u8, u9, u10, u11, u12, -⟩ := O9); (simp only [tsAdr, SepN] at S9); (obtain ⟨s1, s2, s3, s4, s5, s6, s7, s8, s9, s10, s11, -, -⟩ := S9); dsimp only [List.cons_append, List.nil_append, tsLed, tsDict, tsRest] at N9; walk_at "M z")
    k_with "M call" => (refine' Mine.u_new ?_ ?_ ?_ ?_ ?_ ?_  (Mine.names_sp _ _ _ _ _ _) ?_ ?_ ?_; walk_at "M b"; walk_at "M d"; intro h9 tk9; refine Mine.NamesPost.el ?_; intro z9 o9 T1 T2 S9 F9 N9 O9; (simp only [nmLed, List.forall_mem_cons] at O9); (obtain ⟨u1, u2, u3, u4, u5, -⟩ := O9); (have S8 := S9); (simp only [nmAdr, SepN] at S8); (obtain ⟨s1, s2, s3, s4, -, -⟩ := S8); dsimp only [List.cons_append, List.nil_append, nmLed] at N9; walk_at "M z")
    k_with "M call" => (refine' Mine.u_cut ?_ ?_ ?_ ?_ ?_ ?_ ?_ (Mine.draw_sp _ _ _ _ _ _ _ _ _ _ _ ?_ ?_ ?_ ?_) ?_ ?_ ?_ ?_; walk_at "M b"; walk_at "M o"; walk_at "M k"; walk_at "M a"; decide; decide; walk_at "M d"; intro h9 tk9; refine Mine.DrawPost.el ?_; intro us9 ms9 n9 r9 t9 r0 r1 i9 l9 F9 N9; dsimp only [List.cons_append, List.nil_append] at N9; walk_at "M z")
    k_with "M call" => (refine' Mine.u_read ?_ ?_ ?_ ?_ ?_ ?_ ?_ (Mine.ct_int _ _ _ _ _ _ _ _ _ _ _ _ ?_ ?_ ?_) ?_ ?_ ?_; walk_at "M b"; walk_at "M o"; walk_at "M a"; walk_at "M n"; walk_at "M d"; intro h9 tk9; walk_at "M v"; walk_at "M z")
    k_with "M call" => (refine' Mine.u_new ?_ ?_ ?_ ?_ ?_ ?_  (Mine.law_read_whole _ _ _ _ _ _ _ ?_ ?_) ?_ ?_ ?_; walk_at "M b"; walk_at "M l"; walk_at "M l"; walk_at "M d"; intro h9 tk9; refine Mine.ReadPost.el ?_; intro pr9 tq9 tv9 n9 F9 N9 Op9; dsimp only [List.cons_append, List.nil_append, tup2] at N9; walk_at "M z")
    k_with "M call" => (refine' Mine.u_read ?_ ?_ ?_ ?_ ?_ ?_ ?_ (Mine.ct_char _ _ _ _ _ _ _ _ _ _ _ _ ?_ ?_ ?_) ?_ ?_ ?_; walk_at "M b"; walk_at "M o"; walk_at "M a"; walk_at "M n"; walk_at "M d"; intro h9 tk9; walk_at "M v"; walk_at "M z")
    k_with "M call" => (refine' Mine.u_new ?_ ?_ ?_ ?_ ?_ ?_  (Mine.law_read_chr _ _ _ _ _ _ _ ?_ ?_) ?_ ?_ ?_; walk_at "M b"; walk_at "M a"; walk_at "M d"; intro h9 tk9; refine Mine.ReadPost.el ?_; intro pr9 tq9 tv9 n9 F9 N9 Op9; dsimp only [List.cons_append, List.nil_append, tup2] at N9; walk_at "M z")
    k_with "M call" => (refine' Mine.u_read ?_ ?_ ?_ ?_ ?_ ?_ ?_ (Mine.ct_byte _ _ _ _ _ (.mk ..) _ _ _ _ _ _ _ ?_ ?_ ?_ ?_ ?_) ?_ ?_ ?_; walk_at "M b"; walk_at "M o"; walk_at "M a"; walk_at "M n"; walk_at "M d"; intro h9 tk9; walk_at "M v"; walk_at "M z")
    k_with "M call" => (refine' Mine.u_read ?_ ?_ ?_ ?_ ?_ ?_ ?_ (Mine.ct_str _ _ _ _ _ _ _ _ _ _ _ _ ?_ ?_ ?_) ?_ ?_ ?_; walk_at "M b"; walk_at "M o"; walk_at "M a"; walk_at "M d"; intro h9 tk9; walk_at "M v"; walk_at "M z")
    k_with "M call" => (refine' Mine.u_new ?_ ?_ ?_ ?_ ?_ ?_  (Mine.law_read_txt _ _ _ _ _ _ _ ?_ ?_) ?_ ?_ ?_; walk_at "M b"; walk_at "M a"; walk_at "M d"; intro h9 tk9; refine Mine.ReadPost.el ?_; intro pr9 tq9 tv9 n9 F9 N9 Op9; dsimp only [List.cons_append, List.nil_append, tup2] at N9; walk_at "M z")
    k_with "M call" => (refine' Mine.u_cutO ?_ ?_ ?_ ?_ ?_ ?_ ?_ (Mine.tstr_sp _ _ _ _ _ (.mk ..) _ _ _ ?_) ?_ ?_ ?_ ?_; walk_at "M b"; walk_at "M o"; walk_at "M k"; (first | with_reducible assumption | k_ne); walk_at "M d"; intro h9 tk9; refine Mine.TStrPost.el ?_; intro y9 dy9 od9 tf9 t9 D9 l9 n1 n2 n3 n4 F9 N9 Oy9 Od9; dsimp only [List.cons_append, List.nil_append, tsDict, tsRest] at N9 Oy9 Od9; walk_at "M z")
    k_with "M call" => (refine' Mine.u_read ?_ ?_ ?_ ?_ ?_ ?_ ?_ (Mine.ct_set _ _ _ _ _ _ _ _ _ _ _ _ ?_) ?_ ?_ ?_; walk_at "M b"; walk_at "M o"; walk_at "M a"; walk_at "M d"; intro h9 tk9; refine Mine.SetPost.el2 ?_; intro rs9 t9 r9 f9 F9 N9; walk_at "M z")
    k_with "M call" => (refine' Mine.u_new ?_ ?_ ?_ ?_ ?_ ?_  (Mine.elems_sp _ _ _ _ _ _ _ _ ?_ ?_) ?_ ?_ ?_; walk_at "M b"; walk_at "M a"; walk_at "M d"; intro h9 tk9; refine Mine.ElPost.el ?_; intro D9 us9 n9 I9 F9 N9 OD9; dsimp only [List.cons_append, List.nil_append] at N9 OD9; walk_at "M z")
    k_with "M call" => (refine' Mine.u_read ?_ ?_ ?_ ?_ ?_ ?_ ?_ (Mine.ct_bool _ _ _ _ _ (.mk ..) _ _ _ _ _ _ _ _ _ _ _ ?_ ?_ ?_ ?_ ?_) ?_ ?_ ?_; walk_at "M b"; walk_at "M o"; walk_at "M a"; walk_at "M e"; walk_at "M d"; intro h9 tk9; walk_at "M v"; walk_at "M z")
    k_with "M call" => (refine' Mine.u_read ?_ ?_ ?_ ?_ ?_ ?_ ?_ (Mine.tc_char _ _ _ _ _ (.mk ..) _ _ _ _ _ _ _ _ _ _ ?_ ?_ ?_ ?_ ?_ ?_ ?_) ?_ ?_ ?_; walk_at "M b"; walk_at "M o"; walk_at "M a"; walk_at "M e"; walk_at "M n"; walk_at "M d"; intro h9 tk9; walk_at "M v"; walk_at "M z")
    k_with "M call" => (refine' Mine.u_read ?_ ?_ ?_ ?_ ?_ ?_ ?_ (Mine.taken_sp _ _ _ _ _ (.mk ..) _ _ _ _ _ _ ?_ ?_ ?_) ?_ ?_ ?_; walk_at "M b"; walk_at "M o"; walk_at "M a"; walk_at "M e"; walk_at "M d"; intro h9 tk9; walk_at "M v"; walk_at "M z")
    k_with "M call" => (refine' Mine.u_cut ?_ ?_ ?_ ?_ ?_ ?_ ?_ (Mine.enter_sp _ _ _ _ _ (.mk ..) _ _ _ _ ?_ ?_) ?_ ?_ ?_ ?_; walk_at "M b"; walk_at "M o"; walk_at "M k"; walk_at "M a"; walk_at "M d"; intro h9 tk9; refine Mine.EnterPost.el ?_; intro o9 t9 T9 F9 N9; dsimp only [nmLed, List.cons_append, List.nil_append] at N9; walk_at "M z")
    rename IsRange _ _ _ _ _ _ _ _ => rg5
    rename Fr _ _ _ _ => F5
    rename News _ _ _ _ => N5
    rename IntsAre _ _ => i5
    k_dflt refine' mask_loop z tt nz o0 cf l [Str.ofString "spot", Str.ofString "wide"] (by rfl) (by rfl) F5 N5 rg5 (by omega) (by omega) ?hs i5 (by omega) ?hc ?turn ?done
    case hs => (dsimp only [lmLed, lzLed, nmLed, tsLed, tsDict, tsRest, List.cons_append, List.nil_append]; walk_at "M in")
    case hc => with_reducible assumption
    case turn =>
      clear F5 N5 i5 rg5 hret
      intro us7 ms7 n7 cm7 mk7 tm7 k7 t7 u7 h tk own Qt ho7 hI7 hL7 hC7 hm7 hm8 F7 N7 hQ
      have ho8 : OwnOff own [l] := ownOff_of ho7 (by (dsimp only [lmLed, lzLed, nmLed, tsLed, tsDict, tsRest, List.cons_append, List.nil_append]; intro b hb; rw [List.mem_singleton.mp hb]; exact .tail _ (.tail _ (.head _))))
      have ho9 := OwnOff.ne ho7 (.head _)
      dsimp only [lmLed, lzLed, nmLed, tsLed, tsDict, tsRest, List.cons_append, List.nil_append] at N7 ho9
      clear ho7
      (try k_fold)
      (repeat' (first | (k_unfold; (try dsimp only)) | (k_end; wrow_close) | (walk1; (try dsimp only)) | (dsimp only; walk1) | (leave1; (try dsimp only)) | fail "no step"))
      rename News _ _ _ _ => N8
      rename Fr _ _ _ _ => F8
      refine' hQ _ _ _ _ (_, _, _, _, _, _) F8 N8 ?hs1 ?hs2 ?hr ?hi ⟨?h1, ?h2, ?h3, ?h4⟩
      case hs1 => (dsimp only [lmLed, lzLed, nmLed, tsLed, tsDict, tsRest, List.cons_append, List.nil_append]; walk_at "M in")
      case hs2 => (intro p hp; k_ownIn)
      case hr => (intro zz z1 z3; simp only [List.contains_cons, List.contains_nil, Bool.or_false, Bool.or_eq_false_iff, beq_eq_false_iff_ne, ne_eq] at z3; simp [z1, z3])
      case hi => with_reducible assumption
      case h1 => with_reducible assumption
      case h2 => with_reducible assumption
      case h3 => with_reducible assumption
      case h4 => with_reducible assumption
    case done =>
      clear F5 N5 i5 rg5
      intro us7 ms7 n7 cm7 mk7 tm7 u7 h tk hI7 hL7 hC7 hm7 hm8 F7 N7
      dsimp only [lmLed, lzLed, nmLed, tsLed, tsDict, tsRest, List.cons_append, List.nil_append] at N7
      (try dsimp only)
      (try k_fold)
      (repeat' (first | (k_unfold; (try dsimp only)) | (k_end; wrow_close) | (walk1; (try dsimp only)) | (dsimp only; walk1) | (leave1; (try dsimp only)) | fail "no step"))
      refine' hret _ (Snap.intro ⟨⟨z, tt, nz, o0, cf, cm7, l, us7, ms7, n7⟩, xn, tn⟩ ?hF ?hN ?he ?hs ⟨⟨?f1, ?f0, ?f2, ?f3, ?f4, ?f5, ?f6, ?f7, ?f8, ?f9⟩, ?zz9⟩)
      case hF => assumption
      case hN => assumption
      case he => kst_all
      case hs => (dsimp only [lzLed, nmLed, tsLed, tsDict, tsRest, List.cons_append, List.nil_append]; walk_at "M in")
      case f1 => with_reducible assumption
      case f0 => exact ⟨_, by with_reducible assumption⟩
      case f2 => with_reducible assumption
      case f3 => with_reducible assumption
      case f4 => first | exact ktys | exact ⟨by with_reducible assumption, by with_reducible assumption, by with_reducible assumption, by with_reducible assumption, by with_reducible assumption⟩
      case f5 => with_reducible assumption
      case f6 => with_reducible assumption
      case f7 => first | exact kse | (dsimp only [lzAdr, nmAdr, tsAdr, List.cons_append, List.nil_append]; k_subL)
      case f8 => with_reducible assumption
      case f9 => first | exact kne | k_ne
      case zz9 => exact ⟨kx, mk7, tm7, hC7, hm7, hm8⟩
  clear F9 N9 kcell kcm kints klen kal ksc knsep kne kx ktys kse kt1 kt2 kt3 kt4 kt5 q1 q2 q3 q4 q5 q6 q7 q8 q9 q10 q11 q12 q13 q14 q15 q16 q17 q18 q19 q20
  intro z tt nz o0 cf cm l us ms n xn tn h9 tk9 m9 v0 F9 N9 kcell kcm kints klen ktys kt1 kt2 kt3 kt4 kt5 kal ksc kse q1 q2 q3 q4 q5 q6 q7 q8 q9 q10 q11 q12 q13 q14 q15 q16 q17 q18 q19 q20 knsep kne kx
  dsimp only [lzLed, nmLed, tsLed, tsDict, tsRest, List.cons_append, List.nil_append] at N9
  dsimp only [kstB] at F9
  (try dsimp only at kx)
  simp only [List.drop_succ_cons, List.drop_zero]
  obtain ⟨kxc, mk, tmk, hcm, hm0, hm1⟩ := kx
  clear kcm
  refine seg_law F9 (fun c => [(Str.ofString "names", .ref c.1.nz.x), (Str.ofString "types", .ref c.1.z.x), (Str.ofString "code", .int c.2.1 c.2.2)]) (fun L c => lzLed L 8 c.1) (fun c => 0 ≤ c.2.1 ∧ c.2.1 < 256) 1 ?_ ?_
  · intro Q' hret
    simp only [List.take_succ_cons, List.take_zero]
    k_with "M src" => (refine waitP ?_)
    (repeat' (first | (k_unfold; (try dsimp only)) | (k_end; wrow_close) | (walk1; (try dsimp only)) | (dsimp only; walk1) | (leave1; (try dsimp only)) | fail "no step"))
    unfold waitT
    k_dflt (refine LCt.ListComp_T (F₀ := by k_asm) (by with_unfolding_all rfl) (by decide) (by rfl) (by decide) (by rfl) ?_)
    (repeat' (first | (k_unfold; (try dsimp only)) | (k_end; wrow_close) | (walk1; (try dsimp only)) | (dsimp only; walk1) | (leave1; (try dsimp only)) | fail "no step"))
    unfold WaitP
    k_with_none
    k_with "M call" => (refine' Mine.u_newL ?_ ?_ ?_ ?_ ?_ ?_ ?_ (Mine.figures_sp _ _ _ _ _ _ _ _ ?_ ?_) ?_ ?_ ?_; walk_at "M b"; with_reducible assumption; walk_at "M a"; omega; walk_at "M d"; intro h9 tk9; refine Mine.FigPost.el ?_; intro l9 us9 ms9 n9 i9 q9 F9 N9 Ol9; dsimp only [List.cons_append, List.nil_append] at N9 Ol9; walk_at "M z")
    k_with "M call" => (refine' Mine.u_new ?_ ?_ ?_ ?_ ?_ ?_  (Mine.types_sp _ _ _ _ _) ?_ ?_ ?_; walk_at "M b"; walk_at "M d"; intro h9 tk9; refine Mine.TypesPost.el ?_; intro z9 t9 T1 T2 T3 T4 T5 S9 F9 N9 O9; (simp only [tsLed, List.forall_mem_cons] at O9); (obtain ⟨u1, u2, u3, u4, u5, u6, u7, u8, u9, u10, u11, u12, -⟩ := O9); (simp only [tsAdr, SepN] at S9); (obtain ⟨s1, s2, s3, s4, s5, s6, s7, s8, s9, s10, s11, -, -⟩ := S9); dsimp only [List.cons_append, List.nil_append, tsLed, tsDict, tsRest] at N9; walk_at "M z")
    k_with "M call" => (refine' Mine.u_new ?_ ?_ ?_ ?_ ?_ ?_  (Mine.names_sp _ _ _ _ _ _) ?_ ?_ ?_; walk_at "M b"; walk_at "M d"; intro h9 tk9; refine Mine.NamesPost.el ?_; intro z9 o9 T1 T2 S9 F9 N9 O9; (simp only [nmLed, List.forall_mem_cons] at O9); (obtain ⟨u1, u2, u3, u4, u5, -⟩ := O9); (have S8 := S9); (simp only [nmAdr, SepN] at S8); (obtain ⟨s1, s2, s3, s4, -, -⟩ := S8); dsimp only [List.cons_append, List.nil_append, nmLed] at N9; walk_at "M z")
    k_with "M call" => (refine' Mine.u_cut ?_ ?_ ?_ ?_ ?_ ?_ ?_ (Mine.draw_sp _ _ _ _ _ _ _ _ _ _ _ ?_ ?_ ?_ ?_) ?_ ?_ ?_ ?_; walk_at "M b"; walk_at "M o"; walk_at "M k"; walk_at "M a"; decide; decide; walk_at "M d"; intro h9 tk9; refine Mine.DrawPost.el ?_; intro us9 ms9 n9 r9 t9 r0 r1 i9 l9 F9 N9; dsimp only [List.cons_append, List.nil_append] at N9; walk_at "M z")
    k_with "M call" => (refine' Mine.u_read ?_ ?_ ?_ ?_ ?_ ?_ ?_ (Mine.ct_int _ _ _ _ _ _ _ _ _ _ _ _ ?_ ?_ ?_) ?_ ?_ ?_; walk_at "M b"; walk_at "M o"; walk_at "M a"; walk_at "M n"; walk_at "M d"; intro h9 tk9; walk_at "M v"; walk_at "M z")
    k_with "M call" => (refine' Mine.u_new ?_ ?_ ?_ ?_ ?_ ?_  (Mine.law_read_whole _ _ _ _ _ _ _ ?_ ?_) ?_ ?_ ?_; walk_at "M b"; walk_at "M l"; walk_at "M l"; walk_at "M d"; intro h9 tk9; refine Mine.ReadPost.el ?_; intro pr9 tq9 tv9 n9 F9 N9 Op9; dsimp only [List.cons_append, List.nil_append, tup2] at N9; walk_at "M z")
    k_with "M call" => (refine' Mine.u_read ?_ ?_ ?_ ?_ ?_ ?_ ?_ (Mine.ct_char _ _ _ _ _ _ _ _ _ _ _ _ ?_ ?_ ?_) ?_ ?_ ?_; walk_at "M b"; walk_at "M o"; walk_at "M a"; walk_at "M n"; walk_at "M d"; intro h9 tk9; walk_at "M v"; walk_at "M z")
    k_with "M call" => (refine' Mine.u_new ?_ ?_ ?_ ?_ ?_ ?_  (Mine.law_read_chr _ _ _ _ _ _ _ ?_ ?_) ?_ ?_ ?_; walk_at "M b"; walk_at "M a"; walk_at "M d"; intro h9 tk9; refine Mine.ReadPost.el ?_; intro pr9 tq9 tv9 n9 F9 N9 Op9; dsimp only [List.cons_append, List.nil_append, tup2] at N9; walk_at "M z")
    k_with "M call" => (refine' Mine.u_read ?_ ?_ ?_ ?_ ?_ ?_ ?_ (Mine.ct_byte _ _ _ _ _ (.mk ..) _ _ _ _ _ _ _ ?_ ?_ ?_ ?_ ?_) ?_ ?_ ?_; walk_at "M b"; walk_at "M o"; walk_at "M a"; walk_at "M n"; walk_at "M d"; intro h9 tk9; walk_at "M v"; walk_at "M z")
    k_with "M call" => (refine' Mine.u_read ?_ ?_ ?_ ?_ ?_ ?_ ?_ (Mine.ct_str _ _ _ _ _ _ _ _ _ _ _ _ ?_ ?_ ?_) ?_ ?_ ?_; walk_at "M b"; walk_at "M o"; walk_at "M a"; walk_at "M d"; intro h9 tk9; walk_at "M v"; walk_at "M z")
    k_with "M call" => (refine' Mine.u_new ?_ ?_ ?_ ?_ ?_ ?_  (Mine.law_read_txt _ _ _ _ _ _ _ ?_ ?_) ?_ ?_ ?_; walk_at "M b"; walk_at "M a"; walk_at "M d"; intro h9 tk9; refine Mine.ReadPost.el ?_; intro pr9 tq9 tv9 n9 F9 N9 Op9; dsimp only [List.cons_append, List.nil_append, tup2] at N9; walk_at "M z")
    k_with "M call" => (refine' Mine.u_cutO ?_ ?_ ?_ ?_ ?_ ?_ ?_ (Mine.tstr_sp _ _ _ _ _ (.mk ..) _ _ _ ?_) ?_ ?_ ?_ ?_; walk_at "M b"; walk_at "M o"; walk_at "M k"; (first | with_reducible assumption | k_ne); walk_at "M d"; intro h9 tk9; refine Mine.TStrPost.el ?_; intro y9 dy9 od9 tf9 t9 D9 l9 n1 n2 n3 n4 F9 N9 Oy9 Od9; dsimp only [List.cons_append, List.nil_append, tsDict, tsRest] at N9 Oy9 Od9; walk_at "M z")
    k_with "M call" => (refine' Mine.u_read ?_ ?_ ?_ ?_ ?_ ?_ ?_ (Mine.ct_set _ _ _ _ _ _ _ _ _ _ _ _ ?_) ?_ ?_ ?_; walk_at "M b"; walk_at "M o"; walk_at "M a"; walk_at "M d"; intro h9 tk9; refine Mine.SetPost.el2 ?_; intro rs9 t9 r9 f9 F9 N9; walk_at "M z")
    k_with "M call" => (refine' Mine.u_new ?_ ?_ ?_ ?_ ?_ ?_  (Mine.elems_sp _ _ _ _ _ _ _ _ ?_ ?_) ?_ ?_ ?_; walk_at "M b"; walk_at "M a"; walk_at "M d"; intro h9 tk9; refine Mine.ElPost.el ?_; intro D9 us9 n9 I9 F9 N9 OD9; dsimp only [List.cons_append, List.nil_append] at N9 OD9; walk_at "M z")
    k_with "M call" => (refine' Mine.u_read ?_ ?_ ?_ ?_ ?_ ?_ ?_ (Mine.ct_bool _ _ _ _ _ (.mk ..) _ _ _ _ _ _ _ _ _ _ _ ?_ ?_ ?_ ?_ ?_) ?_ ?_ ?_; walk_at "M b"; walk_at "M o"; walk_at "M a"; walk_at "M e"; walk_at "M d"; intro h9 tk9; walk_at "M v"; walk_at "M z")
    k_with "M call" => (refine' Mine.u_read ?_ ?_ ?_ ?_ ?_ ?_ ?_ (Mine.tc_char _ _ _ _ _ (.mk ..) _ _ _ _ _ _ _ _ _ _ ?_ ?_ ?_ ?_ ?_ ?_ ?_) ?_ ?_ ?_; walk_at "M b"; walk_at "M o"; walk_at "M a"; walk_at "M e"; walk_at "M n"; walk_at "M d"; intro h9 tk9; walk_at "M v"; walk_at "M z")
    k_with "M call" => (refine' Mine.u_read ?_ ?_ ?_ ?_ ?_ ?_ ?_ (Mine.taken_sp _ _ _ _ _ (.mk ..) _ _ _ _ _ _ ?_ ?_ ?_) ?_ ?_ ?_; walk_at "M b"; walk_at "M o"; walk_at "M a"; walk_at "M e"; walk_at "M d"; intro h9 tk9; walk_at "M v"; walk_at "M z")
    k_with "M call" => (refine' Mine.u_cut ?_ ?_ ?_ ?_ ?_ ?_ ?_ (Mine.enter_sp _ _ _ _ _ (.mk ..) _ _ _ _ ?_ ?_) ?_ ?_ ?_ ?_; walk_at "M b"; walk_at "M o"; walk_at "M k"; walk_at "M a"; walk_at "M d"; intro h9 tk9; refine Mine.EnterPost.el ?_; intro o9 t9 T9 F9 N9; dsimp only [nmLed, List.cons_append, List.nil_append] at N9; walk_at "M z")
    rename IsRange _ _ _ _ _ _ _ _ => rg5
    rename Fr _ _ _ _ => F5
    rename News _ _ _ _ => N5
    k_dflt refine' src_places mk (by rfl) F5 N5 rg5 ?turn ?elem ?fin
    case turn =>
      clear hret
      intro g i ys t I oI C oC D m2 h tk Qb E7 hi7 hC7 hx7 F7 N7 off7 ne7 hQ
      (repeat' (first | (k_unfold; (try dsimp only)) | (k_end; wrow_close) | (walk1; (try dsimp only)) | (dsimp only; walk1) | (leave1; (try dsimp only)) | fail "no step"))
      exact hQ _ _ _ (by assumption) (by assumption) ask_eq
    case elem =>
      clear hret
      intro g i ys t I oI C oC D m2 h tk Q7 E7 hC7 hx7 F7 N7 hQ
      (repeat' (first | (k_unfold; (try dsimp only)) | (k_end; wrow_close) | (walk1; (try dsimp only)) | (dsimp only; walk1) | (leave1; (try dsimp only)) | fail "no step"))
      exact hQ _ _ (by assumption) (by assumption)
    case fin =>
      clear F5 N5 rg5
      intro ys D h tk hI7 F7 N7 o7
      replace o7 := off1_offN o7
      (try simp only [List.map_cons, List.map_nil] at o7)
      (try dsimp only)
      (try k_fold)
      (repeat' (first | (k_unfold; (try dsimp only)) | (k_end; wrow_close) | (walk1; (try dsimp only)) | (dsimp only; walk1) | (leave1; (try dsimp only)) | fail "no step"))
      refine' hret _ (Snap.intro ⟨⟨z, tt, nz, o0, cf, cm, l, us, ms, n⟩, xn, tn⟩ ?hF ?hN ?he ?hs ⟨⟨?f1, ?f0, ?f2, ?f3, ?f4, ?f5, ?f6, ?f7, ?f8, ?f9⟩, ?zz9⟩)
      case hF => assumption
      case hN => assumption
      case he => kst_all
      case hs => (dsimp only [lzLed, nmLed, tsLed, tsDict, tsRest, List.cons_append, List.nil_append]; walk_at "M in")
      case f1 => with_reducible assumption
      case f0 => exact ⟨_, by with_reducible assumption⟩
      case f2 => with_reducible assumption
      case f3 => with_reducible assumption
      case f4 => first | exact ktys | exact ⟨by with_reducible assumption, by with_reducible assumption, by with_reducible assumption, by with_reducible assumption, by with_reducible assumption⟩
      case f5 => with_reducible assumption
      case f6 => with_reducible assumption
      case f7 => first | exact kse | (dsimp only [lzAdr, nmAdr, tsAdr, List.cons_append, List.nil_append]; k_subL)
      case f8 => with_reducible assumption
      case f9 => first | exact kne | k_ne
      case zz9 => exact kxc
  clear F9 N9 kcell kints klen kal ksc knsep kne ktys kse kt1 kt2 kt3 kt4 kt5 q1 q2 q3 q4 q5 q6 q7 q8 q9 q10 q11 q12 q13 q14 q15 q16 q17 q18 q19 q20 kxc hcm hm0 hm1
  intro z tt nz o0 cf cm l us ms n xn tn h9 tk9 m9 v0 F9 N9 kcell kcm kints klen ktys kt1 kt2 kt3 kt4 kt5 kal ksc kse q1 q2 q3 q4 q5 q6 q7 q8 q9 q10 q11 q12 q13 q14 q15 q16 q17 q18 q19 q20 knsep kne kx
  dsimp only [lzLed, nmLed, tsLed, tsDict, tsRest, List.cons_append, List.nil_append] at N9
  dsimp only [kstB] at F9
  (try dsimp only at kx)
  simp only [List.drop_succ_cons, List.drop_zero]
  refine seg_snap F9 (σ := LZ × Int × Tok) (fun c => [(Str.ofString "names", .ref c.1.nz.x), (Str.ofString "types", .ref c.1.z.x), (Str.ofString "code", .int c.2.1 c.2.2)]) (fun L c => lzLed L 8 c.1) (fun prog w L c => LzOkB prog w L c.1 ∧ 0 ≤ c.2.1 ∧ c.2.1 < 256) 2 ?_ ?_
  · intro Q' hret
    simp only [List.take_succ_cons, List.take_zero]
    k_with "M menu" => (k_dflt (refine item_three (News.isList (by k_asm) (by k_mem)) (by with_reducible assumption) (by with_reducible assumption) ?_); intro nm9 tn9 hn9)
    (repeat' (first | (k_unfold; (try dsimp only)) | (k_end; wrow_close) | (walk1; (try dsimp only)) | (dsimp only; walk1) | (leave1; (try dsimp only)) | fail "no step"))
    refine' hret _ (Snap.intro ⟨⟨z, tt, nz, _, cf, cm, l, _, _, _⟩, xn, tn⟩ ?hF ?hN ?he ?hs ⟨⟨?f1, ?f0, ?f2, ?f3, ?f4, ?f5, ?f6, ?f7, ?f8, ?f9⟩, ?zz9⟩)
    case hF => assumption
    case hN => assumption
    case he => kst_all
    case hs => (dsimp only [lzLed, nmLed, tsLed, tsDict, tsRest, List.cons_append, List.nil_append]; walk_at "M in")
    case f1 => with_reducible assumption
    case f0 => exact ⟨_, by with_reducible assumption⟩
    case f2 => with_reducible assumption
    case f3 => with_reducible assumption
    case f4 => first | exact ktys | exact ⟨by with_reducible assumption, by with_reducible assumption, by with_reducible assumption, by with_reducible assumption, by with_reducible assumption⟩
    case f5 => with_reducible assumption
    case f6 => first | with_reducible assumption | exact took_true (by with_reducible assumption) | exact took_false (by with_reducible assumption) | exact took_chr (by with_reducible assumption) | exact took_any (by with_reducible assumption) (by with_reducible assumption)
    case f7 => first | exact kse | (dsimp only [lzAdr, nmAdr, tsAdr, List.cons_append, List.nil_append]; k_subL)
    case f8 => with_reducible assumption
    case f9 => first | exact kne | k_ne
    case zz9 => exact kx
  clear F9 N9 kcell kcm kints klen kal ksc knsep kne kx ktys kse kt1 kt2 kt3 kt4 kt5 q1 q2 q3 q4 q5 q6 q7 q8 q9 q10 q11 q12 q13 q14 q15 q16 q17 q18 q19 q20
  intro c h9 tk9 m9 F9 N9 K9
  obtain ⟨⟨z, tt, nz, o0, cf, cm, l, us, ms, n⟩, xn, tn⟩ := c
  obtain ⟨⟨kcell, ⟨v0, kcm⟩, kints, klen, kty, kal, ksc, ksep, knsep, kne⟩, kx⟩ := K9
  have ktys := kty
  have kse := ksep
  simp only [TsTy] at kty
  obtain ⟨kt1, kt2, kt3, kt4, kt5⟩ := kty
  simp only [lzAdr, nmAdr, tsAdr, List.cons_append, List.nil_append, SepN] at ksep
  obtain ⟨q1, q2, q3, q4, q5, q6, q7, q8, q9, q10, q11, q12, q13, q14, q15, q16, q17, q18, q19, q20, -⟩ := ksep
  dsimp only [lzLed, nmLed, tsLed, tsDict, tsRest, List.cons_append, List.nil_append] at N9
  dsimp only [kstB] at F9
  dsimp only at kcell kcm kints klen kal ksc knsep kne ktys kse
  (try dsimp only at kx)
  simp only [List.drop_succ_cons, List.drop_zero]
  refine ret_true F9 ?_ ?_
  · intro Q' hret
    rcases ksc with ⟨kvs, D, kT, b1, b2, b3⟩ | ⟨kvs, D, kT, b1, b2, b3⟩ | ⟨kvs, D, kT, b1, b2, b3⟩
    all_goals
      (repeat' (first | (k_unfold; (try dsimp only)) | (k_end; wrow_close) | (walk1; (try dsimp only)) | (dsimp only; walk1) | (leave1; (try dsimp only)) | fail "no step"))
      exact hret _ _ _ (by assumption)
  · intro h' tk' m' F8
    k_unfold
    (try dsimp only)
    exact goodW_bool F8 (by assumption) (end_none _) (end_post _)
