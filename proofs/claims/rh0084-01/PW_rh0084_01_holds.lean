import PyProof.Rows.All
import Wide.All
import OpenK.AllK
import Wide.FinOn
import Lean
import PySem.Challenge.RW_rh0084_01
open PySem PySem.W PySem.Calls PyProof.Rows
set_option Elab.async false
namespace Mine
set_option maxRecDepth 100000
set_option rowWalk.seconds 0
set_option compiler.extract_closed false
set_option genSizeOf false
set_option genInjectivity false
noncomputable def hd.view_39 : Program := view PySem.Challenge.pw_rh0084_01 [0, 2, 3, 4, 5, 6, 7, 8, 10, 11, 12, 13, 14, 15, 17, 18, 19, 20, 21, 22, 23, 24, 25, 26, 27, 28, 29, 30, 31, 32, 33, 34, 35, 36, 37, 38, 39, 40, 41, 42, 44, 45, 46, 47, 48, 49, 50]
theorem left_of {p q : Program} {loose : List Str} {Xt : Shared → Bool} {α : Type} {Yf : Shared → α} {Ya : World → α} {N : Nat} (e : opening p = plainProg p.main.scope.names) (hN : Nat.ble 600 N = true) (f : ∀ s, fenceModules? p s = some s)
    (h : ∀ (w : World) (os : OsState), (topFrom treeTable p w N ⟨boot_heap w.params, Array.mk [], boot_drawn, boot_toks, os⟩).map (fun s => (openSeen q loose (importedModules p.main.body) Xt true s, Yf s)) = some (openGood q loose, Ya w)) : LeftO p q loose Xt Yf Ya N := fun w => by
  obtain ⟨s, hs, hv⟩ := Option.map_eq_some_iff.mp (boot_open e hN f w)
  obtain ⟨hp, gn, dr, tk, os⟩ := s
  simp only [Prod.mk.injEq] at hv
  obtain ⟨rfl, rfl, rfl, rfl⟩ := hv
  unfold openEnds
  rw [hs]
  exact h w os
section
theorem words_J0 : True := by
  trivial
local macro_rules | `(tactic| o_law) => `(tactic| refine holds_law (by decide +kernel) fun said => ?_)
local macro_rules | `(tactic| o_head $H) => `(tactic| (refine holds_open (q := Mine.hd.view_39) (loose := [Str.ofString "LinkFault"]) (Xt := fun s => xlAt Mine.hd.view_39 [] s && recOk (RowW.records PySem.Challenge.rw_rh0084_01.row.toRowW) s) (XP := XL Mine.hd.view_39 []) (Yf := Hook.obs $H) (Ya := Hook.val $H) (YP := Hook.says $H) (N := 4868) (left_of (by kernel_rfl) (by decide) (fun s => by kernel_rfl) ?hl) (Hook.of $H) (Hook.keeps $H) (fun s e => xl_of s (Bool.and_eq_true_iff.mp e).1) XL.keeps (by rfl) (by rfl) (by rfl) (fun s e => recFacts_of (Bool.and_eq_true_iff.mp e).2) (by rfl) (by first | assumption | decide +kernel) (by decide +kernel) ⟨rfl, rfl, rfl, rfl, rfl, by decide +kernel⟩ ?hw ?hc; (case hl => intro w os; unfold topFrom; rw [PySem.W.Fast.te14082659384304107361, PySem.W.Fast.te14364793385576792824, PySem.W.Fast.te4187177175401517315]; kernel_rfl)))
set_option maxRecDepth 1000000 in
set_option maxHeartbeats 8000000 in

open_top hd for PySem.Challenge.rw_rh0084_01
end
def fwd (g : String) (s : Lean.Syntax) : Lean.MacroM Lean.Syntax := do let k := Lean.Syntax.mkStrLit (g ++ (⟨s⟩ : Lean.TSyntax `str).getString); `(tactic| k_extra $k:str)
def fwd1 (g : String) : Lean.MacroM Lean.Syntax := do let k := Lean.Syntax.mkStrLit g; `(tactic| k_extra $k:str)
set_option maxHeartbeats 1000000
set_option linter.unusedVariables false
set_option linter.unusedSimpArgs false
noncomputable abbrev PG : Program := PySem.Challenge.rw_rh0084_01.row.prog
noncomputable abbrev PV : Program := Mine.hd.view_39
noncomputable abbrev LO : List Str := looseW Mine.hd.view_39 [Str.ofString "LinkFault"]
noncomputable def Keeps (h h' : Heap) (as : List Addr) : Prop := ∀ b o, h.get? b = some o → b ∉ as → h'.get? b = some o
noncomputable def SlotsUp (l : List Env) (h : Heap) (as : List Addr) (h' : Heap) : Prop := ∀ b ∈ l.filterMap (·.frame), ∀ o, h.get? b = some o → b ∉ as → (∀ vs, o.data ≠ .fields vs) → ∃ sl, h'.get? b = some { o with slots := sl }
noncomputable def Thrown (base : Heap) (l : List Env) (h : Heap) (as : List Addr) (exc : Heap → Heap → Prop) (e : Addr) (h' : Heap) : Prop :=
  ∃ Bh : Heap, base.StaysIn Bh ∧ (∀ b o, h.get? b = some o → b ∉ as → b ∉ l.filterMap (·.frame) → Bh.get? b = some o) ∧ exc h Bh ∧ (∃ a0, Heap.FlyingW Bh l e (.ref 52) a0 h') ∧ SlotsUp l h as h'
noncomputable def NoExc : Heap → Heap → Prop := fun _ _ => False
theorem Thrown.no {base : Heap} {l : List Env} {h : Heap} {as : List Addr} {e : Addr} {h' : Heap} {C : Prop} (x : Thrown base l h as NoExc e h') : C := by
  obtain ⟨_, _, _, x, _⟩ := x
  exact x.elim

noncomputable def Spec (w : World) (mean : ExcName → Option Value) (mg mb : Str → Option Value) (f : Addr) (vs : List Value) (mu : List (Addr × Obj)) (dn un' : Nat) (pre : Heap → Prop) (post : Heap → Heap → Value → Prop) (exc : Heap → Heap → Prop) : Prop :=
  ∀ (dp un : Nat) (gd : Option (List Code)) (cn : Str) (cs : Scope) (a : Addr) (ccd : Value) (cl : List (Str × Addr)) (outer : List Env) (A₀ : Around) (base h₀ : Heap) (L : Addr) (m : Str → Option Value) (s : Shared) (Q E : Value → Shared → Prop),
    Below A₀ base outer h₀ → Fr h₀ L s.heap m → (Mine.hd.heap_1 w.params).In h₀ → News h₀ L s.heap mu → Top PV LO mean mg mb h₀ → cs.kind = .function → dp + dn < recursionLimit → un + un' < cLine → pre s.heap →
    (∀ v h' tk', Keeps s.heap h' (mu.map (·.1)) → post s.heap h' v → Q v { s with heap := h', toks := tk' }) →
    (∀ e h' tk', Thrown base (envX cn cs L a ccd cl :: outer) s.heap (mu.map (·.1)) exc e h' → E (.ref e) { s with heap := h', toks := tk' }) →
    wpAny (model PG w) (ktrTop dp un gd cn cs L a ccd cl outer) (call (.ref f) vs) Q E s

theorem Keeps.refl (h : Heap) (as : List Addr) : Keeps h h as := fun _ _ e _ => e
theorem Keeps.trans {h h' h'' : Heap} {as : List Addr} (x : Keeps h h' as) (y : Keeps h' h'' as) : Keeps h h'' as := fun b o e n => y b o (x b o e n) n
theorem Keeps.mono {h h' : Heap} {as bs : List Addr} (x : Keeps h h' as) (hs : ∀ b ∈ as, b ∈ bs) : Keeps h h' bs := fun b o e n => x b o e fun q => n (hs b q)
theorem Keeps.get {h h' : Heap} {as : List Addr} (x : Keeps h h' as) {b : Addr} {o : Obj} (e : h.get? b = some o) (n : b ∉ as) : h'.get? b = some o := x b o e n
section
variable {h₀ h h' : Heap} {L : Addr} {m : Str → Option Value} {news mu : List (Addr × Obj)} {as : List Addr}
theorem fr_keeps (F : Fr h₀ L h m) (N : News h₀ L h mu) (k : Keeps h h' (mu.map (·.1))) : Fr h₀ L h' m := by
  obtain ⟨o, es, ep, ho, r⟩ := F.ns
  refine ⟨⟨o, es, ep, k L o ho fun q => ?_, r⟩, fun b o e => k b o (F.keep b o e) fun q => ?_, F.above⟩
  · obtain ⟨p, hp, e⟩ := List.mem_map.mp q
    exact (N p hp).2.1 e
  · obtain ⟨p, hp, q⟩ := List.mem_map.mp q
    have := (N p hp).2.2
    rw [q, e] at this; cases this
theorem news_keeps (N : News h₀ L h news) (k : Keeps h h' as) (off : ∀ p ∈ news, p.1 ∉ as) : News h₀ L h' news := fun p hp => ⟨k _ _ (N p hp).1 (off p hp), (N p hp).2⟩
theorem news_keeps0 (N : News h₀ L h news) (k : Keeps h h' []) : News h₀ L h' news := news_keeps N k fun _ _ q => nomatch q
theorem news_sub (N : News h₀ L h news) (hs : ∀ p ∈ mu, p ∈ news) : News h₀ L h mu := fun p hp => N p (hs p hp)
theorem news_new {a : Addr} {o : Obj} (F : Fr h₀ L h m) (N : News h₀ L h' news) (hn : h.get? a = none) (ho : h'.get? a = some o) : News h₀ L h' ((a, o) :: news) := fun p hp => by
  rcases List.mem_cons.mp hp with rfl | hp
  · refine ⟨ho, fun q => ?_, ?_⟩
    · obtain ⟨oL, _, _, hL, _⟩ := F.ns
      have q' : a = L := q
      rw [q', hL] at hn; cases hn
    · cases q : h₀.get? a with
      | none => rfl
      | some o' => have := F.keep a o' q; rw [hn] at this; cases this
  · exact N p hp
theorem news_old {a : Addr} {o o' : Obj} (N : News h₀ L h mu) (hm : (a, o) ∈ mu) (N' : News h₀ L h' news) (ho : h'.get? a = some o') : News h₀ L h' ((a, o') :: news) := fun p hp => by
  rcases List.mem_cons.mp hp with rfl | hp
  · exact ⟨ho, (N _ hm).2⟩
  · exact N' p hp
end

section
variable {w : World} {mean : ExcName → Option Value} {mg mb : Str → Option Value} {f : Addr} {vs : List Value} {mu : List (Addr × Obj)} {dn un' : Nat} {pre : Heap → Prop} {post : Heap → Heap → Value → Prop} {exc : Heap → Heap → Prop}
  {dp un : Nat} {gd : Option (List Code)} {cn : Str} {cs : Scope} {a : Addr} {ccd : Value} {cl : List (Str × Addr)} {outer : List Env} {A₀ : Around} {base h₀ : Heap} {L : Addr} {m : Str → Option Value} {s : Shared} {Q E : Value → Shared → Prop} {news : List (Addr × Obj)}
theorem Spec.use {h : Heap} {gn : Array GenState} {dr : Drawn} {tk : Nat} {os : OsState} (S : Spec w mean mg mb f vs mu dn un' pre post exc) (B : Below A₀ base outer h₀) (F : Fr h₀ L h m) (X : (Mine.hd.heap_1 w.params).In h₀) (N : News h₀ L h news) (T : Top PV LO mean mg mb h₀) (hk : cs.kind = .function)
    (hd : dp + dn < recursionLimit) (hu : un + un' < cLine) (hm : ∀ p ∈ mu, p ∈ news) (hp : pre h)
    (ret : ∀ v h' tk', Keeps h h' (mu.map (·.1)) → Fr h₀ L h' m → post h h' v → Q v ⟨h', gn, dr, tk', os⟩)
    (thr : ∀ e h' tk', Thrown base (envX cn cs L a ccd cl :: outer) h (mu.map (·.1)) exc e h' → E (.ref e) ⟨h', gn, dr, tk', os⟩) :
    wpAny (model PG w) (ktrTop dp un gd cn cs L a ccd cl outer) (call (.ref f) vs) Q E ⟨h, gn, dr, tk, os⟩ :=
  S _ _ _ _ _ _ _ _ _ _ _ _ _ _ ⟨h, gn, dr, tk, os⟩ _ _ B F X (news_sub N hm) T hk hd hu hp (fun v h' tk' k po => ret v h' tk' k (fr_keeps F (news_sub N hm) k) po) thr
theorem Spec.use0 {h : Heap} {gn : Array GenState} {dr : Drawn} {tk : Nat} {os : OsState} (S : Spec w mean mg mb f vs [] dn un' pre post NoExc) (B : Below A₀ base outer h₀) (F : Fr h₀ L h m) (X : (Mine.hd.heap_1 w.params).In h₀) (N : News h₀ L h news) (T : Top PV LO mean mg mb h₀) (hk : cs.kind = .function)
    (hd : dp + dn < recursionLimit) (hu : un + un' < cLine) (hp : pre h)
    (ret : ∀ v h' tk', Keeps h h' [] → Fr h₀ L h' m → News h₀ L h' news → post h h' v → Q v ⟨h', gn, dr, tk', os⟩) :
    wpAny (model PG w) (ktrTop dp un gd cn cs L a ccd cl outer) (call (.ref f) vs) Q E ⟨h, gn, dr, tk, os⟩ :=
  S.use B F X N T hk hd hu (fun _ h => nomatch h) hp (fun v h' tk' k F' po => ret v h' tk' k F' (news_keeps0 N k) po) fun _ _ _ x => x.no
noncomputable abbrev IsV (v : Value) : Heap → Heap → Value → Prop := fun _ _ u => u = v
noncomputable abbrev NoPre : Heap → Prop := fun _ => True
theorem Spec.useV {h : Heap} {gn : Array GenState} {dr : Drawn} {tk : Nat} {os : OsState} {v : Value} (S : Spec w mean mg mb f vs [] dn un' NoPre (IsV v) NoExc) (B : Below A₀ base outer h₀) (F : Fr h₀ L h m) (X : (Mine.hd.heap_1 w.params).In h₀) (N : News h₀ L h news) (T : Top PV LO mean mg mb h₀) (hk : cs.kind = .function)
    (hd : dp + dn < recursionLimit) (hu : un + un' < cLine)
    (ret : ∀ h' tk', Keeps h h' [] → Fr h₀ L h' m → News h₀ L h' news → Q v ⟨h', gn, dr, tk', os⟩) :
    wpAny (model PG w) (ktrTop dp un gd cn cs L a ccd cl outer) (call (.ref f) vs) Q E ⟨h, gn, dr, tk, os⟩ :=
  S.use0 B F X N T hk hd hu trivial fun _ h' tk' k F' N' e => e ▸ ret h' tk' k F' N'
theorem ret_pure {h h' g : Heap} {gn : Array GenState} {dr : Drawn} {tk' : Nat} {os : OsState} {L' : Addr} {m' : Str → Option Value} {as : List Addr} {v : Value} (hret : ∀ v h' tk', Keeps h h' as → post h h' v → Q v ⟨h', gn, dr, tk', os⟩) (HG : Keeps h g as) (F' : Fr g L' h' m') (hp : post h h' v) :
    Q v ⟨h', gn, dr, tk', os⟩ := hret v h' tk' (fun b o e n => F'.keep b o (HG b o e n)) hp
end

noncomputable def Bind (_ : List (Str × Value)) : Prop := True
theorem Bind.is {b : List (Str × Value)} : Bind b := trivial
section
variable {prog : Program} {w : World} {A A₀ : Around} {s : Shared} {K : Frag} {L : Addr} {h₀ base : Heap} {m mg mb : Str → Option Value} {news : List (Addr × Obj)} {p : Program} {loose : List Str} {mean : ExcName → Option Value}
theorem enterM {env : Env} {outer : List Env} {R : Result → Shared → Prop} {name qual : Str} {params : Arguments} {body : List Stmt} {scope : Scope} {dV kV doc pm cdv ct oc : Value} {an od : Option Addr} {osl : Array (Option Value)} {f : Addr} {args : Args} {binds : List (Str × Value)}
    (_hB : Bind binds) (B : Below A₀ base outer h₀) (F : Fr h₀ L s.heap m) (X₀ : K.In h₀) (N : News h₀ L s.heap news) (T : Top p loose mean mg mb h₀) (hA : A.frames = some (env :: outer)) (hf : env.frame = some L) (hke : env.scope.kind = .function)
    (ho : K.lookup f = some ⟨oc, od, .func (fnOf name qual params body scope dV kV doc pm an cdv ct), osl⟩) (hcd : codeIn K cdv qual = true) (hroom : A.depth < recursionLimit)
    (hbind : BindsTo s (fnOf name qual params body scope dV kV doc pm an cdv ct) args binds) (hloc : ∀ y ∈ binds, scope.names.lookup y.1 = some .local)
    (h : ∀ g L' h₁, Keeps s.heap g (news.map (·.1)) → Fr h₀ L g m → Fr g L' h₁ (fun y => binds.reverse.lookup y) → News g L' h₁ news → Below A base (env :: outer) g → K.In g → Top p loose mean mg mb g →
      wpAny (model prog w) (A.deeper (envOf qual scope L' f cdv)) (execs body (envOf qual scope L' f cdv))
        (fun fl s' => LeaveK h₀ L m g R (match fl with | .ret v => v | _ => .none) s')
        (fun e s' => wpAny (model prog w) (A.deeper (envOf qual scope L' f cdv)) (leaving (envOf qual scope L' f cdv) e) (fun _ s'' => R (.error e) s'') (fun e' s'' => R (.error e') s'') s')
        { s with heap := h₁, toks := s.toks + binds.length })
    (hco : scope.isCoroutine = false) (hgen : scope.isGenerator = false) (hk : scope.kind = .function)
    (hcell : ∀ x ∈ scope.names, x.2 ≠ .cell) : codeAny (model prog w) A (.call (.ref f) args) R s := by
  obtain ⟨FG, BG, st, lv⟩ := groundX (R := R) B F N hA hf hke
  refine codeAny_call_def (fd := fnX name qual params body scope [] dV kV doc pm an cdv ct) (body := body) (binds := binds) hroom ((X₀.keeps F.keep) _ _ ho) rfl (T.nolimit.keeps F.keep) (codeRec_of (X₀.keeps F.keep) hcd) rfl hbind hcell hloc (fun h₁ hns hk₁ => ?_) hco hgen hk
  exact wpAny_mono (h _ s.heap.objs.size h₁ (fun b o e n => hideAll_get _ e n) FG ⟨hns, fun b o e => hk₁ b o (of_hideAll _ e), Nat.le_of_eq (hideAll_size _ _)⟩
    (fun p hp => ⟨hk₁ _ _ (N p hp).1, Nat.ne_of_lt (Heap.lt_size (N p hp).1), hideAll_none _ (List.mem_map_of_mem hp)⟩) BG (X₀.keeps st) (T.keeps st)) (fun fl s' hl => lv _ _ hl) fun _ _ y => y
end

section
variable {s s' : Shared} {base g h : Heap} {L' e : Addr} {m' : Str → Option Value} {news mu muI : List (Addr × Obj)} {outer : List Env} {name : Str} {scope : Scope} {fa : Addr} {cd : Value} {exc excI : Heap → Heap → Prop} {A : Around} {M : Model}
theorem thrown_up {E : Value → Shared → Prop} {E' : Value → Shared → Prop} (hA : A.frames = some outer) (HG : Keeps s.heap g (mu.map (·.1))) (F' : Fr g L' h m') (N' : News g L' h news) (hmu : ∀ p ∈ muI, p ∈ news)
    (Th : Thrown base (envOf name scope L' fa cd :: outer) h (muI.map (·.1)) excI e s'.heap)
    (hexc : ∀ Bh, (∀ b o, h.get? b = some o → b ∉ muI.map (·.1) → b ∉ (envOf name scope L' fa cd :: outer).filterMap (·.frame) → Bh.get? b = some o) → excI h Bh → exc s.heap Bh)
    (hthr : ∀ h' , Thrown base outer s.heap (mu.map (·.1)) exc e h' → E (.ref e) { s' with heap := h' }) :
    wpAny M (A.deeper (envOf name scope L' fa cd)) (leaving (envOf name scope L' fa cd) (.ref e)) (fun _ s'' => E (.ref e) s'') E' s' := by
  obtain ⟨Bh, h1, h2, h3, ⟨a0, f1, f2, f3, f4⟩, hs⟩ := Th
  have hin : ∀ b o, s.heap.get? b = some o → b ∉ mu.map (·.1) → b ∉ muI.map (·.1) := fun b o hb hn q => by
    obtain ⟨p, hp, q⟩ := List.mem_map.mp q
    have := (N' p (hmu p hp)).2.2
    rw [q, HG b o hb hn] at this; cases this
  refine wpAny_leaving_nextW (Around.frames_deeper hA) f3 rfl f4 f1 f2 fun h' hL => ?_
  obtain ⟨k1, ⟨_, _, k2⟩, k3, k4⟩ := hL
  refine hthr h' ⟨Bh, h1, fun b o hb hn hf => ?_, hexc Bh h2 h3, ⟨a0, k1, f2, k2, k3⟩, fun b hb o ho hn hd => ?_⟩
  · have hg := HG b o hb hn
    refine h2 b o (F'.keep b o hg) (hin b o hb hn) fun q => ?_
    obtain ⟨env, he, q⟩ := List.mem_filterMap.mp q
    rcases List.mem_cons.mp he with rfl | he
    · have hz : L' = b := Option.some.inj q
      subst hz
      exact absurd (Nat.lt_of_lt_of_le (Heap.lt_size hg) F'.above) (Nat.lt_irrefl _)
    · exact hf (List.mem_filterMap.mpr ⟨env, he, q⟩)
  · obtain ⟨env, he, q⟩ := List.mem_filterMap.mp hb
    obtain ⟨sl, e1⟩ := hs b (List.mem_filterMap.mpr ⟨env, List.mem_cons_of_mem _ he, q⟩) o (F'.keep b o (HG b o ho hn)) (hin b o ho hn) hd
    obtain ⟨sl', e2⟩ := k4 b _ e1 hd
    exact ⟨sl', e2⟩
end
noncomputable def Hold (P : Prop) : Prop := P
theorem Hold.in {P : Prop} (h : Hold P) : P := h
theorem Hold.out {P : Prop} (h : P) : Hold P := h
noncomputable def Post2 {α : Type} (Q Q' : α → Shared → Prop) : Prop := ∀ v s, Q v s → Q' v s
theorem Post2.go {α : Type} {Q Q' : α → Shared → Prop} {v : α} {s : Shared} (h : Post2 Q Q') (x : Q v s) : Q' v s := h v s x
theorem gen_post {α : Type} {M : Model} {A : Around} {c : Sem α} {Q : α → Shared → Prop} {E : Value → Shared → Prop} {s : Shared} (h : ∀ Q' E', Post2 Q Q' → Post2 E E' → wpAny M A c Q' E' s) : wpAny M A c Q E s := h Q E (fun _ _ x => x) (fun _ _ x => x)
theorem gen_postQ {α : Type} {M : Model} {A : Around} {c : Sem α} {Q : α → Shared → Prop} {E : Value → Shared → Prop} {s : Shared} (h : ∀ Q', Post2 Q Q' → wpAny M A c Q' E s) : wpAny M A c Q E s := h Q (fun _ _ x => x)
theorem Post2.chk {α : Type} {M : Model} {A : Around} {c : Sem α} {Q₀ Q : α → Shared → Prop} {E : Value → Shared → Prop} {s : Shared} (_h : Post2 Q₀ Q) (h : wpAny M A c Q E s) : wpAny M A c Q E s := h
noncomputable def Hid {α : Type} (_ : α → Shared → Prop) : Prop := True
theorem Hid.is {α : Type} {Q : α → Shared → Prop} : Hid Q := trivial
noncomputable def KExecs (M : Model) (A : Around) (rest : List Stmt) (env : Env) (Q : Flow → Shared → Prop) (E : Value → Shared → Prop) : Flow → Shared → Prop :=
  fun f s => match f with | .next => wpAny M A (execs rest env) Q E s | f => Q f s
section
variable {M : Model} {A : Around} {st : Stmt} {rest : List Stmt} {env : Env} {Q Q' : Flow → Shared → Prop} {E : Value → Shared → Prop} {s : Shared} {v : Value}
theorem execs_consV (_h : Hid Q) (h : ∀ Q', Hid Q' → Post2 (KExecs M A rest env Q E) Q' → wpAny M A (exec st env) Q' E s) : wpAny M A (execs (st :: rest) env) Q E s := wpAny_execs_cons (h _ .is fun f _ x => by cases f <;> exact x)
theorem execs_oneV (_h : Hid Q) (h : wpAny M A (exec st env) Q E s) : wpAny M A (execs [st] env) Q E s := by
  refine wpAny_execs_cons (wpAny_mono h (fun f s' x => ?_) fun _ _ x => x)
  cases f with
  | next => exact wpAny_execs_nil x
  | _ => exact x
theorem execs_consT {hp : Heap} {gn : Array GenState} {dr : Drawn} {tk : Nat} {os : OsState} (_h : Hid Q) (h : ∀ tk' Q', Hid Q' → Post2 (KExecs M A rest env Q E) Q' → wpAny M A (exec st env) Q' E ⟨hp, gn, dr, tk', os⟩) : wpAny M A (execs (st :: rest) env) Q E ⟨hp, gn, dr, tk, os⟩ := execs_consV _h (h tk)
theorem execs_oneT {hp : Heap} {gn : Array GenState} {dr : Drawn} {tk : Nat} {os : OsState} (_h : Hid Q) (h : ∀ tk', wpAny M A (exec st env) Q E ⟨hp, gn, dr, tk', os⟩) : wpAny M A (execs [st] env) Q E ⟨hp, gn, dr, tk, os⟩ := execs_oneV _h (h tk)
theorem gen_postH {α : Type} {c : Sem α} {Q : α → Shared → Prop} (h : ∀ Q', Hid Q' → Post2 Q Q' → wpAny M A c Q' E s) : wpAny M A c Q E s := h Q .is (fun _ _ x => x)
theorem KExecs.next (h : Post2 (KExecs M A rest env Q E) Q') (x : wpAny M A (execs rest env) Q E s) : Q' .next s := h .next s x
theorem KExecs.ret (h : Post2 (KExecs M A rest env Q E) Q') (x : Q (.ret v) s) : Q' (.ret v) s := h (.ret v) s x
theorem KExecs.brk (h : Post2 (KExecs M A rest env Q E) Q') (x : Q .brk s) : Q' .brk s := h .brk s x
theorem KExecs.cont (h : Post2 (KExecs M A rest env Q E) Q') (x : Q .cont s) : Q' .cont s := h .cont s x
end
noncomputable def KEnds (h₀ : Heap) (L : Addr) (m : Str → Option Value) (g : Heap) (R : Result → Shared → Prop) : Flow → Shared → Prop :=
  fun fl s => LeaveK h₀ L m g R (match fl with | .ret v => v | _ => .none) s
noncomputable def KFlies (M : Model) (A : Around) (env : Env) (R : Result → Shared → Prop) : Value → Shared → Prop :=
  fun e s => wpAny M A (leaving env e) (fun _ s'' => R (.error e) s'') (fun e' s'' => R (.error e') s'') s
section
variable {M : Model} {A : Around} {env : Env} {h₀ g : Heap} {L : Addr} {m : Str → Option Value} {R : Result → Shared → Prop} {Q' : Flow → Shared → Prop} {E' : Value → Shared → Prop} {s : Shared} {v e : Value}
theorem KEnds.ret (h : Post2 (KEnds h₀ L m g R) Q') (x : LeaveK h₀ L m g R v s) : Q' (.ret v) s := h (.ret v) s x
theorem KEnds.next (h : Post2 (KEnds h₀ L m g R) Q') (x : LeaveK h₀ L m g R .none s) : Q' .next s := h .next s x
theorem KFlies.go (h : Post2 (KFlies M A env R) E') (x : wpAny M A (leaving env e) (fun _ s'' => R (.error e) s'') (fun e' s'' => R (.error e') s'') s) : E' e s := h e s x
end
section
variable {prog : Program} {w : World} {A A₀ : Around} {s : Shared} {K : Frag} {L : Addr} {h₀ base : Heap} {m mg mb : Str → Option Value} {news : List (Addr × Obj)} {p : Program} {loose : List Str} {mean : ExcName → Option Value}
theorem enterG {env : Env} {outer : List Env} {R : Result → Shared → Prop} {name qual : Str} {params : Arguments} {body : List Stmt} {scope : Scope} {dV kV doc pm cdv ct oc : Value} {an od : Option Addr} {osl : Array (Option Value)} {f : Addr} {args : Args} {binds : List (Str × Value)}
    (_hB : Bind binds) (B : Below A₀ base outer h₀) (F : Fr h₀ L s.heap m) (X₀ : K.In h₀) (N : News h₀ L s.heap news) (T : Top p loose mean mg mb h₀) (hA : A.frames = some (env :: outer)) (hf : env.frame = some L) (hke : env.scope.kind = .function)
    (ho : K.lookup f = some ⟨oc, od, .func (fnOf name qual params body scope dV kV doc pm an cdv ct), osl⟩) (hcd : codeIn K cdv qual = true) (hroom : A.depth < recursionLimit)
    (hbind : BindsTo s (fnOf name qual params body scope dV kV doc pm an cdv ct) args binds) (hloc : ∀ y ∈ binds, scope.names.lookup y.1 = some .local)
    (h : ∀ g L' h₁, Keeps s.heap g (news.map (·.1)) → Fr h₀ L g m → let m' := (fun y => binds.reverse.lookup y); Fr g L' h₁ m' → News g L' h₁ news → Below A base (env :: outer) g → K.In g → Top p loose mean mg mb g →
      ∀ Q' E', Hid Q' → Post2 (KEnds h₀ L m g R) Q' → let env' := envOf qual scope L' f cdv; let A' := A.deeper env'; Post2 (KFlies (model prog w) A' env' R) E' → PassesOwn (model prog w) A' env' E' →
      wpAny (model prog w) A' (execs body env') Q' E' { s with heap := h₁, toks := s.toks + binds.length })
    (hco : scope.isCoroutine = false) (hgen : scope.isGenerator = false) (hk : scope.kind = .function)
    (hcell : ∀ x ∈ scope.names, x.2 ≠ .cell) : codeAny (model prog w) A (.call (.ref f) args) R s :=
  enterM _hB B F X₀ N T hA hf hke ho hcd hroom hbind hloc (fun g L' h₁ a b c d e i j => h g L' h₁ a b c d e i j _ _ .is (fun _ _ x => x) (fun _ _ x => x) PassesOwn.leaving) hco hgen hk hcell
end
section
variable {w : World} {mean : ExcName → Option Value} {mg mb : Str → Option Value} {f : Addr} {vs : List Value} {mu : List (Addr × Obj)} {dn un' : Nat} {pre : Heap → Prop} {post : Heap → Heap → Value → Prop} {exc : Heap → Heap → Prop}
theorem Spec.of (h : ∀ (dp un : Nat) (gd : Option (List Code)) (cn : Str) (cs : Scope) (a : Addr) (ccd : Value) (cl : List (Str × Addr)) (outer : List Env) (A₀ : Around) (base h₀ : Heap) (L : Addr) (m : Str → Option Value) (hh : Heap) (gn : Array GenState) (dr : Drawn) (tk : Nat) (os : OsState) (Q E : Value → Shared → Prop),
    Below A₀ base outer h₀ → Fr h₀ L hh m → (Mine.hd.heap_1 w.params).In h₀ → News h₀ L hh mu → Top PV LO mean mg mb h₀ → cs.kind = .function → dp + dn < recursionLimit → un + un' < cLine → pre hh →
    (∀ v h' tk', Keeps hh h' (mu.map (·.1)) → post hh h' v → Q v ⟨h', gn, dr, tk', os⟩) →
    (∀ e h' tk', Thrown base (envX cn cs L a ccd cl :: outer) hh (mu.map (·.1)) exc e h' → E (.ref e) ⟨h', gn, dr, tk', os⟩) →
    wpAny (model PG w) (ktrTop dp un gd cn cs L a ccd cl outer) (call (.ref f) vs) Q E ⟨hh, gn, dr, tk, os⟩) : Spec w mean mg mb f vs mu dn un' pre post exc :=
  fun dp un gd cn cs a ccd cl outer A₀ base h₀ L m s Q E => h dp un gd cn cs a ccd cl outer A₀ base h₀ L m s.heap s.gens s.drawn s.toks s.os Q E
end
theorem room1 {a i n b : Nat} (h : a + n < b) (e : Nat.ble i n = true) : a + i < b := Nat.lt_of_le_of_lt (Nat.add_le_add_left (Nat.le_of_ble_eq_true e) a) h
theorem room2 {a i j n b : Nat} (h : a + n < b) (e : Nat.ble (i + j) n = true) : a + i + j < b := by rw [Nat.add_assoc]; exact room1 h e
theorem room3 {a i j k n b : Nat} (h : a + n < b) (e : Nat.ble (i + (j + k)) n = true) : a + i + j + k < b := by rw [Nat.add_assoc, Nat.add_assoc]; exact room1 h e
theorem room0 {a n b : Nat} (h : a + n < b) : a < b := Nat.lt_of_le_of_lt (Nat.le_add_right a n) h
section
variable {x y z n m a b c i j k : Nat}
theorem om_le (h : x ≤ n) (e : Nat.ble n m = true) : x ≤ m := Nat.le_trans h (Nat.le_of_ble_eq_true e)
theorem om_eq (h : x = n) (e : Nat.ble n m = true) : x ≤ m := h ▸ Nat.le_of_ble_eq_true e
theorem om_lt (h : x < n) (e : Nat.ble n m = true) : x < m := Nat.lt_of_lt_of_le h (Nat.le_of_ble_eq_true e)
theorem om_lel (h : x ≤ n) (e : Nat.blt n m = true) : x < m := Nat.lt_of_le_of_lt h (Nat.le_of_ble_eq_true e)
theorem om_ltle (h : x < n) (e : Nat.ble n (m+1) = true) : x ≤ m := Nat.le_of_lt_succ (Nat.lt_of_lt_of_le h (Nat.le_of_ble_eq_true e))
theorem om_lele (h : x ≤ y) (h' : y ≤ n) (e : Nat.ble n m = true) : x ≤ m := om_le (Nat.le_trans h h') e
theorem om_lelt (h : x ≤ y) (h' : y ≤ n) (e : Nat.blt n m = true) : x < m := om_lel (Nat.le_trans h h') e
theorem om_ltlt (h : x < y) (h' : y ≤ n) (e : Nat.ble n m = true) : x < m := om_lt (Nat.lt_of_lt_of_le h h') e
theorem om_ltll (h : x < y) (h' : y ≤ n) (e : Nat.ble n (m+1) = true) : x ≤ m := om_ltle (Nat.lt_of_lt_of_le h h') e
theorem om_eqle (h : x = y) (h' : y ≤ n) (e : Nat.ble n m = true) : x ≤ m := om_le (h ▸ h') e
theorem om_eqlt (h : x = y) (h' : y ≤ n) (e : Nat.blt n m = true) : x < m := om_lel (h ▸ h') e
theorem om_qele (h : y = x) (h' : y ≤ n) (e : Nat.ble n m = true) : x ≤ m := om_le (h ▸ h') e
theorem om_qelt (h : y = x) (h' : y ≤ n) (e : Nat.blt n m = true) : x < m := om_lel (h ▸ h') e
theorem om_lteq (h : x < y) (e : z = y) : x < z := e ▸ h
theorem om_ltqe (h : x < y) (e : y = z) : x < z := e ▸ h
theorem om_leeq (h : x ≤ y) (e : z = y) : x ≤ z := e ▸ h
theorem om_leqe (h : x ≤ y) (e : y = z) : x ≤ z := e ▸ h
theorem om_add (e : Nat.ble i j = true) : c + i ≤ c + j := Nat.add_le_add_left (Nat.le_of_ble_eq_true e) c
theorem om_adl (h : i < j) : c + i ≤ c + j := Nat.add_le_add_left (Nat.le_of_lt h) c
theorem om_ale (h : i ≤ j) : c + i ≤ c + j := Nat.add_le_add_left h c
theorem om_ad1 (h : i < j) : c + i + 1 ≤ c + j := Nat.add_le_add_left (k := c) h
theorem om_sub1 (h : i < n) : n - i = n - (i + 1) + 1 := (Nat.succ_pred_eq_of_pos (Nat.sub_pos_of_lt h)).symm
theorem om_mono (h : i < n) : n - (i + 1) < n - i := Nat.pred_lt (Nat.sub_ne_zero_of_lt h)
theorem om_muc (h : c + b < m) (hi : i < n) (hn : n ≤ j) (e : Nat.ble (k * j) b = true) : c + k * i + k < m :=
  Nat.lt_of_le_of_lt (Nat.add_assoc c _ k ▸ Nat.add_le_add_left (Nat.le_trans (Nat.mul_le_mul_left k (Nat.le_trans hi hn)) (Nat.le_of_ble_eq_true e)) c) h
theorem om_mul (hi : i < n) (hn : n ≤ j) (e : Nat.ble (k * j) b = true) : c + k * i + k ≤ c + b :=
  Nat.add_assoc c _ k ▸ Nat.add_le_add_left (Nat.le_trans (Nat.mul_le_mul_left k (Nat.le_trans hi hn)) (Nat.le_of_ble_eq_true e)) c
theorem om_mue (hn : n ≤ j) (e : Nat.ble (k * j) b = true) : c + k * n ≤ c + b :=
  Nat.add_le_add_left (Nat.le_trans (Nat.mul_le_mul_left k hn) (Nat.le_of_ble_eq_true e)) c
theorem om_mus : c + k * i + k = c + k * (i + 1) := Nat.add_assoc c _ k
theorem range_next {rest : List Nat} (hr : x :: rest = List.range' i (n - i)) : i < n ∧ x = i ∧ rest = List.range' (i + 1) (n - (i + 1)) := by
  rcases Nat.lt_or_ge i n with h | h
  · rw [om_sub1 h, List.range'_succ] at hr
    injection hr with h1 h2
    exact ⟨h, h1, h2⟩
  · rw [Nat.sub_eq_zero_of_le h] at hr; cases hr
theorem lt_two (h : i < 2) : i = 0 ∨ i = 1 := (by decide : ∀ i, i < 2 → i = 0 ∨ i = 1) i h
theorem lt_three (h : i < 3) : i = 0 ∨ i = 1 ∨ i = 2 := (by decide : ∀ i, i < 3 → i = 0 ∨ i = 1 ∨ i = 2) i h
theorem lt_four (h : i < 4) : i = 0 ∨ i = 1 ∨ i = 2 ∨ i = 3 := (by decide : ∀ i, i < 4 → i = 0 ∨ i = 1 ∨ i = 2 ∨ i = 3) i h
theorem len_strs {prog : Program} {w : World} {A : Around} {E : Value → Shared → Prop} {s : Shared} {l : Addr} {vs : Array Value} {ws : List Str} {Q : Value → Shared → Prop} (hl : s.heap.IsList l vs) (hS : StrsAre vs.toList ws) (hz : ws.length ≤ n) (e : Nat.ble n 16384 = true)
    (h : Q (.int (ws.length : Int) (s.toks + 1)) { s with toks := s.toks + 1 + 1 }) : wpAny (model prog w) A (call (.builtin "len") [.ref l]) Q E s :=
  kun_lenL hl (congrArg Nat.cast (Array.length_toList.symm.trans hS.length)) (Int.ofNat_le.mpr (Nat.le_trans hz (Nat.le_of_ble_eq_true e))) h
theorem len_app {a b : Str} (ha : a.length ≤ n) (hb : b.length ≤ m) : (a ++ b).length ≤ n + m := Nat.le_trans (Nat.le_of_eq (Str.length_append a b)) (Nat.add_le_add ha hb)
theorem om_nat {v : Int} (h : 0 ≤ v) (h' : v < (n : Int)) : v.toNat < n := (Int.toNat_lt h).mpr h'
theorem om_ntr (h : a < b) (h' : b < c) : ¬ a = c := Nat.ne_of_lt (Nat.lt_trans h h')
theorem om_ge (h : i < n) : ¬ ((n : Int) ≤ (i : Int)) := fun q => Nat.not_le_of_lt h (Int.ofNat_le.mp q)
theorem om_castlt (h : i < n) : (i : Int) < (n : Int) := Int.ofNat_lt.mpr h
theorem om_castlt' (h : (i : Int) < (n : Int)) : i < n := Int.ofNat_lt.mp h
theorem om_nge (h : ¬ (i : Int) < (n : Int)) : n ≤ i := Nat.le_of_not_lt fun q => h (Int.ofNat_lt.mpr q)
theorem om_castne (h : (i : Int) < (n : Int)) : ¬ (i : Int) = (n : Int) := by omega
theorem om_castne' (h : (i : Int) < (n : Int)) : ¬ i = n := Nat.ne_of_lt (Int.ofNat_lt.mp h)
theorem om_castsc (h : (i : Int) < (n : Int)) : i + 1 ≤ n := Int.ofNat_lt.mp h
theorem om_castle (h : (i : Int) < (n : Int)) : c + i ≤ c + n := Nat.add_le_add_left (Nat.le_of_lt (Int.ofNat_lt.mp h)) c
theorem om_castle1 (h : (i : Int) < (n : Int)) : c + i + 1 ≤ c + n := Nat.add_le_add_left (k := c) (Int.ofNat_lt.mp h)
theorem om_negl {x : Nat} : (-(x : Int)) ≤ 0 := by omega
theorem om_nc : (-(k : Int)) ≤ (i : Int) := by omega
theorem om_nlt : ¬ (x : Int) < 0 := by omega
theorem om_cle {m : Int} (h : x ≤ n) (e : decide ((n : Int) ≤ m) = true) : (x : Int) ≤ m := by have := of_decide_eq_true e; omega
theorem om_clt {m : Int} (h : x ≤ n) (e : decide ((n : Int) < m) = true) : (x : Int) < m := by have := of_decide_eq_true e; omega
theorem om_cltt {m : Int} (h : x < n) (e : decide ((n : Int) ≤ m) = true) : (x : Int) < m := by have := of_decide_eq_true e; omega
theorem om_cltl {m : Int} (h : x < y) (h' : y ≤ n) (e : decide ((n : Int) ≤ m) = true) : (x : Int) < m := by have := of_decide_eq_true e; omega
theorem om_clil {m : Int} (h : (x : Int) < (y : Int)) (h' : y ≤ n) (e : decide ((n : Int) ≤ m) = true) : (x : Int) < m := by have := of_decide_eq_true e; omega
theorem om_ceq {m : Int} (h : x = y) (h' : y ≤ n) (e : decide ((n : Int) < m) = true) : (x : Int) < m := by have := of_decide_eq_true e; omega
theorem om_cqe {m : Int} (h : y = x) (h' : y ≤ n) (e : decide ((n : Int) < m) = true) : (x : Int) < m := by have := of_decide_eq_true e; omega
theorem om_cge {m : Int} (h : x ≤ n) (e : decide ((n : Int) < m) = true) : ¬ (x : Int) ≥ m := by have := of_decide_eq_true e; omega
theorem om_cpos {m : Int} (e : decide (m ≤ 0) = true) : m ≤ (x : Int) := by have := of_decide_eq_true e; omega
theorem om_cpos' {m : Int} (e : decide (m < 0) = true) : m < (x : Int) := by have := of_decide_eq_true e; omega
theorem om_1 (h : n ≤ x) (e : Nat.ble 1 n = true) : 0 < (x : Int) := by have := Nat.le_of_ble_eq_true e; omega
theorem om_ile {p q r : Int} (h : p ≤ q) (e : decide (q ≤ r) = true) : p ≤ r := Int.le_trans h (of_decide_eq_true e)
theorem om_ilt {p q r : Int} (h : p ≤ q) (e : decide (q < r) = true) : p < r := Int.lt_of_le_of_lt h (of_decide_eq_true e)
theorem om_itt {p q r : Int} (h : p < q) (e : decide (q ≤ r) = true) : p < r := Int.lt_of_lt_of_le h (of_decide_eq_true e)
theorem om_igt {p q r : Int} (h : q ≤ p) (e : decide (r < q) = true) : r < p := Int.lt_of_lt_of_le (of_decide_eq_true e) h
theorem om_ige {p q r : Int} (h : q ≤ p) (e : decide (r ≤ q) = true) : r ≤ p := Int.le_trans (of_decide_eq_true e) h
theorem om_r0 {i : Int} : 0 + i * 1 = i := (Int.zero_add _).trans (Int.mul_one i)
theorem om_r1 {i : Int} : 0 + i * 1 + 1 = i + 1 := congrArg (· + 1) ((Int.zero_add _).trans (Int.mul_one i))
theorem om_rn {i : Nat} {n : Int} (e : decide (n < 0) = true) : n < 0 + (i : Int) * 1 := by have := of_decide_eq_true e; omega
theorem om_rk {i k : Nat} : -(k : Int) ≤ 0 + (i : Int) * 1 := by omega
theorem om_rl {i k : Nat} (h : i < k) : 0 + (i : Int) * 1 < (k : Int) := by omega
theorem om_ntr3 (h : a < b) (h' : b < c) (h2 : c < x) : ¬ a = x := Nat.ne_of_lt (Nat.lt_trans h (Nat.lt_trans h' h2))
theorem om_ntr4 (h : a < b) (h' : b < c) (h2 : c < x) (h3 : x < y) : ¬ a = y := om_ntr3 h h' (Nat.lt_trans h2 h3)
theorem om_ntr5 (h : a < b) (h' : b < c) (h2 : c < x) (h3 : x < y) (h4 : y < z) : ¬ a = z := om_ntr4 h h' h2 (Nat.lt_trans h3 h4)
theorem om_min (h : n ≤ k) (e : Nat.ble (k + 1) m = true) : min i n + 1 ≤ m := Nat.le_trans (Nat.succ_le_succ (Nat.le_trans (Nat.min_le_right i n) h)) (Nat.le_of_ble_eq_true e)
theorem om_pos (h : a < b) : 0 < b := Nat.lt_of_le_of_lt (Nat.zero_le _) h
theorem om_castpos (h : 0 < n) : 0 < (n : Int) := Int.natCast_pos.mpr h
theorem om_nlt' (h : ¬ n ≤ j) : (j : Int) < (n : Int) := Int.ofNat_lt.mpr (Nat.lt_of_not_le h)
theorem om_nsc (h : ¬ n ≤ j) : j + 1 ≤ n := Nat.lt_of_not_le h
end
theorem and3 {p1 p2 p3 z : Prop} (h : p1 ∧ p2 ∧ p3) (k : p1 → p2 → p3 → z) : z := k (h.1) (h.2.1) (h.2.2)
theorem and4 {p1 p2 p3 p4 z : Prop} (h : p1 ∧ p2 ∧ p3 ∧ p4) (k : p1 → p2 → p3 → p4 → z) : z := k (h.1) (h.2.1) (h.2.2.1) (h.2.2.2)
theorem and5 {p1 p2 p3 p4 p5 z : Prop} (h : p1 ∧ p2 ∧ p3 ∧ p4 ∧ p5) (k : p1 → p2 → p3 → p4 → p5 → z) : z := k (h.1) (h.2.1) (h.2.2.1) (h.2.2.2.1) (h.2.2.2.2)
theorem and6 {p1 p2 p3 p4 p5 p6 z : Prop} (h : p1 ∧ p2 ∧ p3 ∧ p4 ∧ p5 ∧ p6) (k : p1 → p2 → p3 → p4 → p5 → p6 → z) : z := k (h.1) (h.2.1) (h.2.2.1) (h.2.2.2.1) (h.2.2.2.2.1) (h.2.2.2.2.2)
theorem and7 {p1 p2 p3 p4 p5 p6 p7 z : Prop} (h : p1 ∧ p2 ∧ p3 ∧ p4 ∧ p5 ∧ p6 ∧ p7) (k : p1 → p2 → p3 → p4 → p5 → p6 → p7 → z) : z := k (h.1) (h.2.1) (h.2.2.1) (h.2.2.2.1) (h.2.2.2.2.1) (h.2.2.2.2.2.1) (h.2.2.2.2.2.2)
theorem and8 {p1 p2 p3 p4 p5 p6 p7 p8 z : Prop} (h : p1 ∧ p2 ∧ p3 ∧ p4 ∧ p5 ∧ p6 ∧ p7 ∧ p8) (k : p1 → p2 → p3 → p4 → p5 → p6 → p7 → p8 → z) : z := k (h.1) (h.2.1) (h.2.2.1) (h.2.2.2.1) (h.2.2.2.2.1) (h.2.2.2.2.2.1) (h.2.2.2.2.2.2.1) (h.2.2.2.2.2.2.2)
theorem and9 {p1 p2 p3 p4 p5 p6 p7 p8 p9 z : Prop} (h : p1 ∧ p2 ∧ p3 ∧ p4 ∧ p5 ∧ p6 ∧ p7 ∧ p8 ∧ p9) (k : p1 → p2 → p3 → p4 → p5 → p6 → p7 → p8 → p9 → z) : z := k (h.1) (h.2.1) (h.2.2.1) (h.2.2.2.1) (h.2.2.2.2.1) (h.2.2.2.2.2.1) (h.2.2.2.2.2.2.1) (h.2.2.2.2.2.2.2.1) (h.2.2.2.2.2.2.2.2)
theorem and10 {p1 p2 p3 p4 p5 p6 p7 p8 p9 p10 z : Prop} (h : p1 ∧ p2 ∧ p3 ∧ p4 ∧ p5 ∧ p6 ∧ p7 ∧ p8 ∧ p9 ∧ p10) (k : p1 → p2 → p3 → p4 → p5 → p6 → p7 → p8 → p9 → p10 → z) : z := k (h.1) (h.2.1) (h.2.2.1) (h.2.2.2.1) (h.2.2.2.2.1) (h.2.2.2.2.2.1) (h.2.2.2.2.2.2.1) (h.2.2.2.2.2.2.2.1) (h.2.2.2.2.2.2.2.2.1) (h.2.2.2.2.2.2.2.2.2)
theorem and11 {p1 p2 p3 p4 p5 p6 p7 p8 p9 p10 p11 z : Prop} (h : p1 ∧ p2 ∧ p3 ∧ p4 ∧ p5 ∧ p6 ∧ p7 ∧ p8 ∧ p9 ∧ p10 ∧ p11) (k : p1 → p2 → p3 → p4 → p5 → p6 → p7 → p8 → p9 → p10 → p11 → z) : z := k (h.1) (h.2.1) (h.2.2.1) (h.2.2.2.1) (h.2.2.2.2.1) (h.2.2.2.2.2.1) (h.2.2.2.2.2.2.1) (h.2.2.2.2.2.2.2.1) (h.2.2.2.2.2.2.2.2.1) (h.2.2.2.2.2.2.2.2.2.1) (h.2.2.2.2.2.2.2.2.2.2)
theorem and12 {p1 p2 p3 p4 p5 p6 p7 p8 p9 p10 p11 p12 z : Prop} (h : p1 ∧ p2 ∧ p3 ∧ p4 ∧ p5 ∧ p6 ∧ p7 ∧ p8 ∧ p9 ∧ p10 ∧ p11 ∧ p12) (k : p1 → p2 → p3 → p4 → p5 → p6 → p7 → p8 → p9 → p10 → p11 → p12 → z) : z := k (h.1) (h.2.1) (h.2.2.1) (h.2.2.2.1) (h.2.2.2.2.1) (h.2.2.2.2.2.1) (h.2.2.2.2.2.2.1) (h.2.2.2.2.2.2.2.1) (h.2.2.2.2.2.2.2.2.1) (h.2.2.2.2.2.2.2.2.2.1) (h.2.2.2.2.2.2.2.2.2.2.1) (h.2.2.2.2.2.2.2.2.2.2.2)
theorem ne_cont {l : List Str} {z x : Str} (h : l.contains z = false) (m : x ∈ l) : ¬ z = x := fun e => by
  subst e
  exact Bool.noConfusion (h.symm.trans (List.contains_iff_mem.mpr m))
theorem let_goal {G : Prop} (h : let P := G; P) : G := h
theorem by_goal {G : Prop} (h : ∀ P : Prop, (G → P) → P) : G := h G id
section
variable {M : Model} {A : Around} {st : Stmt} {rest body orelse : List Stmt} {test : PySem.Expr} {pos : Pos} {env : Env} {Q Q₀ : Flow → Shared → Prop} {E : Value → Shared → Prop} {h : Heap} {gn : Array GenState} {dr : Drawn} {tk : Nat} {os : OsState}
theorem if_sym (b : Bool) (ht : ∀ R : Bool → Shared → Prop, (∀ tk', R b ⟨h, gn, dr, tk', os⟩) → wpAny M A (isTrue test env (eval test env)) R E ⟨h, gn, dr, tk, os⟩)
    (h1 : b = true → ∀ tk', wpAny M A (execs body env) Q E ⟨h, gn, dr, tk', os⟩) (h2 : b = false → ∀ tk', wpAny M A (execs orelse env) Q E ⟨h, gn, dr, tk', os⟩) :
    wpAny M A (exec (.If test body orelse pos) env) Q E ⟨h, gn, dr, tk, os⟩ :=
  wpAny_If (ht _ fun tk' => by
    cases b
    · exact h2 rfl tk'
    · exact h1 rfl tk')
theorem sym_leaf {R : Bool → Shared → Prop} {b c : Bool} (hR : ∀ tk', R b ⟨h, gn, dr, tk', os⟩) (e : b = c) : R c ⟨h, gn, dr, tk, os⟩ := e ▸ hR tk
theorem execs_join (P : Prop) (hs : ∀ Q' : Flow → Shared → Prop, (∀ v s, Q (.ret v) s → Q' (.ret v) s) → (∀ tk', P → Q' .next ⟨h, gn, dr, tk', os⟩) → wpAny M A (exec st env) Q' E ⟨h, gn, dr, tk, os⟩)
    (hn : P → ∀ tk', wpAny M A (execs rest env) Q E ⟨h, gn, dr, tk', os⟩) :
    wpAny M A (execs (st :: rest) env) Q E ⟨h, gn, dr, tk, os⟩ :=
  wpAny_execs_cons (hs _ (fun _ _ x => x) fun tk' p => hn p tk')
end
noncomputable def Mark (_ : Nat) : Prop := True
noncomputable def Sub {α : Type} (l m : List α) : Prop := ∀ p ∈ l, p ∈ m
section
variable {α : Type} {a b : α} {l l' m m' : List α}
theorem Sub.nil : Sub [] m := fun _ h => nomatch h
theorem Sub.refl : Sub l l := fun _ h => h
theorem Sub.cons (h : a ∈ m) (s : Sub l m) : Sub (a :: l) m := List.forall_mem_cons.mpr ⟨h, s⟩
theorem Sub.app (s : Sub l m) (s' : Sub l' m) : Sub (l ++ l') m := fun p h => (List.mem_append.mp h).elim (s p) (s' p)
theorem Sub.tail (s : Sub l m) : Sub l (b :: m) := fun p h => .tail _ (s p h)
theorem Sub.inl (s : Sub l m) : Sub l (m ++ m') := fun p h => List.mem_append.mpr (.inl (s p h))
theorem Sub.inr (s : Sub l m') : Sub l (m ++ m') := fun p h => List.mem_append.mpr (.inr (s p h))
theorem mem_inl (h : a ∈ m) : a ∈ m ++ m' := List.mem_append.mpr (.inl h)
theorem mem_inr (h : a ∈ m') : a ∈ m ++ m' := List.mem_append.mpr (.inr h)
theorem Sub.out (s : Sub l m) : ∀ p ∈ l, p ∈ m := s
end
section
variable {prog : Program} {w : World} {A : Around} {E : Value → Shared → Prop} {cn : Str} {cs : Scope} {L a : Addr} {ccd : Value} {cl : List (Str × Addr)} {h₀ hp : Heap} {gn : Array GenState} {dr : Drawn} {os : OsState} {m : Str → Option Value} {tk : Nat} {x : Str} {p1 p2 p3 : Pos} {kk : Nat} {t : Tok} {whole : Sem Value} {Q : Bool → Shared → Prop}
theorem test_eqS {y c : Str} (F : Fr h₀ L hp m) (hv : m x = some (.str y t)) (k : ∀ tk', Q (y == c) ⟨hp, gn, dr, tk', os⟩)
    (hk : cs.kind = .function) (hx : (envX cn cs L a ccd cl).kindOf x = some .local) (hd : (x == ("__debug__" : Str)) = false) :
    wpAny (model prog w) A (isTrue (.Compare (.Name x p1) [.Eq] [.Constant (.str c) kk p2] p3) (envX cn cs L a ccd cl) whole) Q E ⟨hp, gn, dr, tk, os⟩ :=
  wpAny_isTrue_Compare1 (nameX_L F hv (Constant_str (eq_str (wpAny_truthy_bool (k _)))) hk hx hd) rfl
theorem test_neS {y c : Str} (F : Fr h₀ L hp m) (hv : m x = some (.str y t)) (k : ∀ tk', Q (y != c) ⟨hp, gn, dr, tk', os⟩)
    (hk : cs.kind = .function) (hx : (envX cn cs L a ccd cl).kindOf x = some .local) (hd : (x == ("__debug__" : Str)) = false) :
    wpAny (model prog w) A (isTrue (.Compare (.Name x p1) [.NotEq] [.Constant (.str c) kk p2] p3) (envX cn cs L a ccd cl) whole) Q E ⟨hp, gn, dr, tk, os⟩ :=
  wpAny_isTrue_Compare1 (nameX_L F hv (Constant_str (ne_str (wpAny_truthy_bool (k _)))) hk hx hd) rfl
theorem test_eqI {y c : Int} (F : Fr h₀ L hp m) (hv : m x = some (.int y t)) (k : ∀ tk', Q (y == c) ⟨hp, gn, dr, tk', os⟩)
    (hk : cs.kind = .function) (hx : (envX cn cs L a ccd cl).kindOf x = some .local) (hd : (x == ("__debug__" : Str)) = false) :
    wpAny (model prog w) A (isTrue (.Compare (.Name x p1) [.Eq] [.Constant (.int c) kk p2] p3) (envX cn cs L a ccd cl) whole) Q E ⟨hp, gn, dr, tk, os⟩ :=
  wpAny_isTrue_Compare1 (nameX_L F hv (wpAny_Constant_int (eq_int (wpAny_truthy_bool (k _)))) hk hx hd) rfl
theorem test_neI {y c : Int} (F : Fr h₀ L hp m) (hv : m x = some (.int y t)) (k : ∀ tk', Q (y != c) ⟨hp, gn, dr, tk', os⟩)
    (hk : cs.kind = .function) (hx : (envX cn cs L a ccd cl).kindOf x = some .local) (hd : (x == ("__debug__" : Str)) = false) :
    wpAny (model prog w) A (isTrue (.Compare (.Name x p1) [.NotEq] [.Constant (.int c) kk p2] p3) (envX cn cs L a ccd cl) whole) Q E ⟨hp, gn, dr, tk, os⟩ :=
  wpAny_isTrue_Compare1 (nameX_L F hv (wpAny_Constant_int (ne_int (wpAny_truthy_bool (k _)))) hk hx hd) rfl
theorem test_ltI {y c : Int} (F : Fr h₀ L hp m) (hv : m x = some (.int y t)) (k : ∀ tk', Q (decide (y < c)) ⟨hp, gn, dr, tk', os⟩)
    (hk : cs.kind = .function) (hx : (envX cn cs L a ccd cl).kindOf x = some .local) (hd : (x == ("__debug__" : Str)) = false) :
    wpAny (model prog w) A (isTrue (.Compare (.Name x p1) [.Lt] [.Constant (.int c) kk p2] p3) (envX cn cs L a ccd cl) whole) Q E ⟨hp, gn, dr, tk, os⟩ :=
  wpAny_isTrue_Compare1 (nameX_L F hv (wpAny_Constant_int (lt_int (wpAny_truthy_bool (k _)))) hk hx hd) rfl
theorem test_leI {y c : Int} (F : Fr h₀ L hp m) (hv : m x = some (.int y t)) (k : ∀ tk', Q (decide (y ≤ c)) ⟨hp, gn, dr, tk', os⟩)
    (hk : cs.kind = .function) (hx : (envX cn cs L a ccd cl).kindOf x = some .local) (hd : (x == ("__debug__" : Str)) = false) :
    wpAny (model prog w) A (isTrue (.Compare (.Name x p1) [.LtE] [.Constant (.int c) kk p2] p3) (envX cn cs L a ccd cl) whole) Q E ⟨hp, gn, dr, tk, os⟩ :=
  wpAny_isTrue_Compare1 (nameX_L F hv (wpAny_Constant_int (le_int (wpAny_truthy_bool (k _)))) hk hx hd) rfl
theorem test_gtI {y c : Int} (F : Fr h₀ L hp m) (hv : m x = some (.int y t)) (k : ∀ tk', Q (decide (c < y)) ⟨hp, gn, dr, tk', os⟩)
    (hk : cs.kind = .function) (hx : (envX cn cs L a ccd cl).kindOf x = some .local) (hd : (x == ("__debug__" : Str)) = false) :
    wpAny (model prog w) A (isTrue (.Compare (.Name x p1) [.Gt] [.Constant (.int c) kk p2] p3) (envX cn cs L a ccd cl) whole) Q E ⟨hp, gn, dr, tk, os⟩ :=
  wpAny_isTrue_Compare1 (nameX_L F hv (wpAny_Constant_int (gt_int (wpAny_truthy_bool (k _)))) hk hx hd) rfl
theorem test_geI {y c : Int} (F : Fr h₀ L hp m) (hv : m x = some (.int y t)) (k : ∀ tk', Q (decide (c ≤ y)) ⟨hp, gn, dr, tk', os⟩)
    (hk : cs.kind = .function) (hx : (envX cn cs L a ccd cl).kindOf x = some .local) (hd : (x == ("__debug__" : Str)) = false) :
    wpAny (model prog w) A (isTrue (.Compare (.Name x p1) [.GtE] [.Constant (.int c) kk p2] p3) (envX cn cs L a ccd cl) whole) Q E ⟨hp, gn, dr, tk, os⟩ :=
  wpAny_isTrue_Compare1 (nameX_L F hv (wpAny_Constant_int (ge_int (wpAny_truthy_bool (k _)))) hk hx hd) rfl
end
noncomputable def AnyV (h : Heap) (gn : Array GenState) (dr : Drawn) (os : OsState) (R : Value → Shared → Prop) : Prop := ∀ v tk', R v ⟨h, gn, dr, tk', os⟩
theorem AnyV.go {h : Heap} {gn : Array GenState} {dr : Drawn} {os : OsState} {R : Value → Shared → Prop} {v : Value} {tk : Nat} (x : AnyV h gn dr os R) : R v ⟨h, gn, dr, tk, os⟩ := x v tk
section
variable {prog : Program} {w : World} {A : Around} {E : Value → Shared → Prop} {s : Shared} {cn : Str} {cs : Scope} {L a : Addr} {ccd : Value} {cl : List (Str × Addr)} {h₀ : Heap} {K : Frag} {m mg mb : Str → Option Value} {p : Program} {loose : List Str} {mean : ExcName → Option Value} {x : Str} {f : Value} {a1 : PySem.Expr} {rest : List PySem.Expr} {p1 pos : Pos} {Q : Value → Shared → Prop}
theorem call_glob (F : Fr h₀ L s.heap m) (X : K.In h₀) (T : Top p loose mean mg mb h₀) (e : nsIn K mainGlobals x = some (some f)) (hkp : keepIn K f = true)
    (h : wpAny (model prog w) A (spliced (backTo pos (starEach (a1 :: rest) (envX cn cs L a ccd cl)))) (fun vs s₁ => K.In s₁.heap ∧ wpAny (model prog w) A (call f vs) Q E s₁) E s)
    (hk : cs.kind = .function) (hx : (envX cn cs L a ccd cl).kindOf x = some .globalImplicit) (hd : (x == ("__debug__" : Str)) = false)
    (he : starEach (a1 :: rest) (envX cn cs L a ccd cl) = (false, eval a1 (envX cn cs L a ccd cl)) :: starEach rest (envX cn cs L a ccd cl)) (hplain : (backTo pos (starEach rest (envX cn cs L a ccd cl))).any (·.1) = false) :
    wpAny (model prog w) A (eval (.Call (.Name x p1) (a1 :: rest) [] pos) (envX cn cs L a ccd cl)) Q E s :=
  Call_ (nameX_K F X (topRead_of T) e (callWith_K X hkp h he hplain) hk hx hd)
end
section
variable {prog : Program} {w : World} {A : Around} {E : Value → Shared → Prop} {s : Shared} {cn : Str} {cs : Scope} {L a : Addr} {ccd : Value} {cl : List (Str × Addr)} {h₀ : Heap} {K : Frag} {m mg mb : Str → Option Value} {p : Program} {loose : List Str} {mean : ExcName → Option Value} {x : Str} {f : Value} {args : List PySem.Expr} {vs : List Value} {p1 pos : Pos} {Q : Value → Shared → Prop}
theorem args_name {rest : List PySem.Expr} {y : Str} {v : Value} {Q : List Value → Shared → Prop} (F : Fr h₀ L s.heap m) (hv : m y = some v) (h : wpAny (model prog w) A (spliced (backTo pos (starEach rest (envX cn cs L a ccd cl)))) (fun vs s₂ => Q (v :: vs) s₂) E s)
    (hk : cs.kind = .function) (hx : (envX cn cs L a ccd cl).kindOf y = some .local) (hd : (y == ("__debug__" : Str)) = false) :
    wpAny (model prog w) A (spliced (backTo pos (starEach (.Name y p1 :: rest) (envX cn cs L a ccd cl)))) Q E s := args_cons (nameX_L F hv h hk hx hd) rfl
theorem call_n1 {y1 : Str} {v1 : Value} {q1 : Pos} (F : Fr h₀ L s.heap m) (X : K.In h₀) (T : Top p loose mean mg mb h₀) (e : nsIn K mainGlobals x = some (some f)) (hkp : keepIn K f = true) (hv1 : m y1 = some v1)
    (h : wpAny (model prog w) A (call f [v1]) Q E s) (hk : cs.kind = .function) (hx : (envX cn cs L a ccd cl).kindOf x = some .globalImplicit) (hd : (x == ("__debug__" : Str)) = false) (hx1 : (envX cn cs L a ccd cl).kindOf y1 = some .local) (hd1 : (y1 == ("__debug__" : Str)) = false) :
    wpAny (model prog w) A (eval (.Call (.Name x p1) [.Name y1 q1] [] pos) (envX cn cs L a ccd cl)) Q E s :=
  call_glob F X T e hkp (args_name F hv1 (args_nil ⟨X.keeps F.keep, h⟩) hk hx1 hd1) hk hx hd rfl rfl
theorem call_n2 {y1 y2 : Str} {v1 v2 : Value} {q1 q2 : Pos} (F : Fr h₀ L s.heap m) (X : K.In h₀) (T : Top p loose mean mg mb h₀) (e : nsIn K mainGlobals x = some (some f)) (hkp : keepIn K f = true) (hv1 : m y1 = some v1) (hv2 : m y2 = some v2)
    (h : wpAny (model prog w) A (call f [v1, v2]) Q E s) (hk : cs.kind = .function) (hx : (envX cn cs L a ccd cl).kindOf x = some .globalImplicit) (hd : (x == ("__debug__" : Str)) = false) (hx1 : (envX cn cs L a ccd cl).kindOf y1 = some .local) (hd1 : (y1 == ("__debug__" : Str)) = false) (hx2 : (envX cn cs L a ccd cl).kindOf y2 = some .local) (hd2 : (y2 == ("__debug__" : Str)) = false) :
    wpAny (model prog w) A (eval (.Call (.Name x p1) [.Name y1 q1, .Name y2 q2] [] pos) (envX cn cs L a ccd cl)) Q E s :=
  call_glob F X T e hkp (args_name F hv1 (args_name F hv2 (args_nil ⟨X.keeps F.keep, h⟩) hk hx2 hd2) hk hx1 hd1) hk hx hd rfl rfl
theorem call_n3 {y1 y2 y3 : Str} {v1 v2 v3 : Value} {q1 q2 q3 : Pos} (F : Fr h₀ L s.heap m) (X : K.In h₀) (T : Top p loose mean mg mb h₀) (e : nsIn K mainGlobals x = some (some f)) (hkp : keepIn K f = true) (hv1 : m y1 = some v1) (hv2 : m y2 = some v2) (hv3 : m y3 = some v3)
    (h : wpAny (model prog w) A (call f [v1, v2, v3]) Q E s) (hk : cs.kind = .function) (hx : (envX cn cs L a ccd cl).kindOf x = some .globalImplicit) (hd : (x == ("__debug__" : Str)) = false) (hx1 : (envX cn cs L a ccd cl).kindOf y1 = some .local) (hd1 : (y1 == ("__debug__" : Str)) = false) (hx2 : (envX cn cs L a ccd cl).kindOf y2 = some .local) (hd2 : (y2 == ("__debug__" : Str)) = false) (hx3 : (envX cn cs L a ccd cl).kindOf y3 = some .local) (hd3 : (y3 == ("__debug__" : Str)) = false) :
    wpAny (model prog w) A (eval (.Call (.Name x p1) [.Name y1 q1, .Name y2 q2, .Name y3 q3] [] pos) (envX cn cs L a ccd cl)) Q E s :=
  call_glob F X T e hkp (args_name F hv1 (args_name F hv2 (args_name F hv3 (args_nil ⟨X.keeps F.keep, h⟩) hk hx3 hd3) hk hx2 hd2) hk hx1 hd1) hk hx hd rfl rfl
theorem call_b1 {id : String} {y1 : Str} {v1 : Value} {q1 : Pos} (F : Fr h₀ L s.heap m) (X : K.In h₀) (T : Top p loose mean mg mb h₀) (e : nsIn K mainGlobals x = some none) (hv : bootBuiltins x = some (.builtin id)) (hn : x ≠ "__name__") (hv1 : m y1 = some v1)
    (h : wpAny (model prog w) A (call (.builtin id) [v1]) Q E s) (hk : cs.kind = .function) (hx : (envX cn cs L a ccd cl).kindOf x = some .globalImplicit) (hd : (x == ("__debug__" : Str)) = false) (hx1 : (envX cn cs L a ccd cl).kindOf y1 = some .local) (hd1 : (y1 == ("__debug__" : Str)) = false) :
    wpAny (model prog w) A (eval (.Call (.Name x p1) [.Name y1 q1] [] pos) (envX cn cs L a ccd cl)) Q E s :=
  Call_ (nameX_B F X (topRead_of T) e hv hn (callWith_builtin1 (args_name F hv1 (args_nil h) hk hx1 hd1) rfl rfl) hk hx hd)
end
theorem off_top : True := by
  w_top off
  trivial
theorem fill : (PySem.Challenge.rw_rh0084_01.foot, Mine.hd.heap_1) = (PySem.Challenge.rw_rh0084_01.foot, Mine.hd.heap_1) := by
  k_fill; rfl
theorem words_J1 : True := by
  k_with "J1 mine mem1" => with_reducible first | assumption | exact List.mem_cons_self | (refine List.mem_cons_of_mem _ ?_; walk_at "mine mem1") | (refine mem_inl ?_; walk_at "mine mem1") | (refine mem_inr ?_; walk_at "mine mem1")
  k_with "J1 mine sub1" => with_reducible first | assumption | exact Sub.refl | (refine Sub.tail ?_; walk_at "mine sub1") | (refine Sub.inl ?_; walk_at "mine sub1") | (refine Sub.inr ?_; walk_at "mine sub1")
  k_with "J1 mine sub" => with_reducible first | exact Sub.nil | exact Sub.refl | (refine Sub.cons ?_ ?_; (walk_at "mine mem1"); walk_at "mine sub") | (refine Sub.app ?_ ?_; (walk_at "mine sub"); walk_at "mine sub") | walk_at "mine sub1"
  k_with "J1 mine ne" => with_reducible first | exact Nat.ne_of_lt (by assumption) | exact Nat.ne_of_gt (by assumption) | exact Ne.symm (by assumption) | exact om_ntr (by assumption) (by assumption) | exact om_ntr3 (by assumption) (by assumption) (by assumption) | exact om_ntr4 (by assumption) (by assumption) (by assumption) (by assumption) | exact om_ntr5 (by assumption) (by assumption) (by assumption) (by assumption) (by assumption) | exact Nat.ne_of_gt (And.left (by assumption)) | exact Nat.ne_of_gt (And.left (And.right ((by assumption)))) | exact Nat.ne_of_gt (And.right ((by assumption))) | exact Nat.ne_of_gt (And.left (And.right (And.right ((by assumption))))) | exact Nat.ne_of_gt (And.right (And.right ((by assumption)))) | exact Nat.ne_of_gt (And.left (And.right (And.right (And.right ((by assumption)))))) | exact Nat.ne_of_gt (And.right (And.right (And.right ((by assumption))))) | exact Nat.ne_of_gt (And.left (And.right (And.right (And.right (And.right ((by assumption))))))) | exact Nat.ne_of_gt (And.right (And.right (And.right (And.right ((by assumption)))))) | exact Nat.ne_of_gt (And.left (And.right (And.right (And.right (And.right (And.right ((by assumption)))))))) | exact Nat.ne_of_gt (And.right (And.right (And.right (And.right (And.right ((by assumption))))))) | exact Nat.ne_of_gt (And.left (And.right (And.right (And.right (And.right (And.right (And.right ((by assumption))))))))) | exact Nat.ne_of_gt (And.right (And.right (And.right (And.right (And.right (And.right ((by assumption)))))))) | exact Nat.ne_of_gt (And.left (And.right (And.right (And.right (And.right (And.right (And.right (And.right ((by assumption)))))))))) | exact Nat.ne_of_gt (And.right (And.right (And.right (And.right (And.right (And.right (And.right ((by assumption)))))))))
  k_with "J1 mine cheap" => first | ((with_reducible show @LE.le Nat _ _ _); first | (with_reducible first | exact Nat.le_add_right _ _ | exact Nat.le_refl _ | exact Nat.zero_le _ | exact Nat.succ_le_of_lt (by assumption) | exact om_adl (by assumption) | exact om_ale (by assumption) | exact om_ad1 (by assumption) | exact om_leeq (by assumption) (by assumption) | exact om_leqe (by assumption) (by assumption) | exact om_castsc (by assumption) | exact om_castle (by assumption) | exact om_castle1 (by assumption) | exact om_nge (by assumption) | exact om_nsc (by assumption)) | ((with_reducible refine om_add ?_); k_dflt (exact rfl)) | ((with_reducible refine om_le (by assumption) ?_); k_dflt (exact rfl)) | ((with_reducible refine om_eq (by assumption) ?_); k_dflt (exact rfl)) | ((with_reducible refine om_ltle (by assumption) ?_); k_dflt (exact rfl)) | ((with_reducible refine om_min (by assumption) ?_); k_dflt (exact rfl)) | ((with_reducible refine om_lele (by assumption) (by assumption) ?_); k_dflt (exact rfl)) | ((with_reducible refine om_ltll (by assumption) (by assumption) ?_); k_dflt (exact rfl)) | ((with_reducible refine om_eqle (by assumption) (by assumption) ?_); k_dflt (exact rfl)) | ((with_reducible refine om_qele (by assumption) (by assumption) ?_); k_dflt (exact rfl))) | ((with_reducible show @LT.lt Nat _ _ _); first | (with_reducible first | exact Nat.lt_succ_self _ | exact Nat.lt_succ_of_lt (by assumption) | exact om_mono (by assumption) | exact room0 (by assumption) | exact om_lteq (by assumption) (by assumption) | exact om_ltqe (by assumption) (by assumption) | exact om_castlt' (by assumption) | exact om_pos (by assumption) | exact And.left (by assumption) | exact And.left (And.right ((by assumption))) | exact And.right ((by assumption)) | exact And.left (And.right (And.right ((by assumption)))) | exact And.right (And.right ((by assumption))) | exact And.left (And.right (And.right (And.right ((by assumption))))) | exact And.right (And.right (And.right ((by assumption)))) | exact And.left (And.right (And.right (And.right (And.right ((by assumption)))))) | exact And.right (And.right (And.right (And.right ((by assumption))))) | exact And.left (And.right (And.right (And.right (And.right (And.right ((by assumption))))))) | exact And.right (And.right (And.right (And.right (And.right ((by assumption)))))) | exact And.left (And.right (And.right (And.right (And.right (And.right (And.right ((by assumption)))))))) | exact And.right (And.right (And.right (And.right (And.right (And.right ((by assumption))))))) | exact And.left (And.right (And.right (And.right (And.right (And.right (And.right (And.right ((by assumption))))))))) | exact And.right (And.right (And.right (And.right (And.right (And.right (And.right ((by assumption))))))))) | ((with_reducible refine om_lt (by assumption) ?_); k_dflt (exact rfl)) | ((with_reducible refine om_lel (by assumption) ?_); k_dflt (exact rfl)) | ((with_reducible refine room1 (by assumption) ?_); k_dflt (exact rfl)) | ((with_reducible refine room2 (by assumption) ?_); k_dflt (exact rfl)) | ((with_reducible refine room3 (by assumption) ?_); k_dflt (exact rfl)) | ((with_reducible refine om_lelt (by assumption) (by assumption) ?_); k_dflt (exact rfl)) | ((with_reducible refine om_ltlt (by assumption) (by assumption) ?_); k_dflt (exact rfl)) | ((with_reducible refine om_eqlt (by assumption) (by assumption) ?_); k_dflt (exact rfl)) | ((with_reducible refine om_qelt (by assumption) (by assumption) ?_); k_dflt (exact rfl))) | ((with_reducible show @LE.le Int _ _ _); first | (with_reducible first | exact Int.natCast_nonneg _ | exact om_negl | exact om_nc | exact om_rk) | ((with_reducible refine om_cpos ?_); k_dflt (exact rfl)) | ((with_reducible refine om_cle (by assumption) ?_); k_dflt (exact rfl)) | ((with_reducible refine om_ile (by assumption) ?_); k_dflt (exact rfl)) | ((with_reducible refine om_ige (by assumption) ?_); k_dflt (exact rfl))) | ((with_reducible show @LT.lt Int _ _ _); first | (with_reducible first | exact om_castlt (by assumption) | exact om_rl (by assumption) | exact om_castpos (by assumption) | exact om_nlt' (by assumption)) | ((with_reducible refine om_cpos' ?_); k_dflt (exact rfl)) | ((with_reducible refine om_rn ?_); k_dflt (exact rfl)) | ((with_reducible refine om_clt (by assumption) ?_); k_dflt (exact rfl)) | ((with_reducible refine om_cltt (by assumption) ?_); k_dflt (exact rfl)) | ((with_reducible refine om_1 (by assumption) ?_); k_dflt (exact rfl)) | ((with_reducible refine om_ilt (by assumption) ?_); k_dflt (exact rfl)) | ((with_reducible refine om_itt (by assumption) ?_); k_dflt (exact rfl)) | ((with_reducible refine om_igt (by assumption) ?_); k_dflt (exact rfl)) | ((with_reducible refine om_cltl (by assumption) (by assumption) ?_); k_dflt (exact rfl)) | ((with_reducible refine om_clil (by assumption) (by assumption) ?_); k_dflt (exact rfl)) | ((with_reducible refine om_ceq (by assumption) (by assumption) ?_); k_dflt (exact rfl)) | ((with_reducible refine om_cqe (by assumption) (by assumption) ?_); k_dflt (exact rfl))) | ((with_reducible show ¬ _); first | (with_reducible first | exact Nat.not_lt_of_le (by assumption) | exact Nat.not_le_of_lt (by assumption) | exact om_nlt | exact om_ge (by assumption) | exact om_castne (by assumption) | exact om_castne' (by assumption)) | ((with_reducible refine om_cge (by assumption) ?_); k_dflt (exact rfl))) | ((with_reducible show _ = _); first | (with_reducible first | exact Nat.add_comm _ _ | exact Nat.add_assoc _ _ _ | exact (Nat.add_assoc _ _ _).symm | exact om_r0 | exact om_r1)) | decide
  k_with "J1 mine om" => first | with_reducible assumption | walk_at "mine ne" | walk_at "mine cheap" | omega
  trivial
local macro_rules | `(tactic| walk_at $s) => fwd "J1 " s
section
variable {prog : Program} {w : World} {A : Around} {E : Value → Shared → Prop} {env : Env} {h₀ : Heap} {x : Str} {body : List Stmt} {Q : Flow → Shared → Prop} {gn : Array GenState} {dr : Drawn} {os : OsState}
noncomputable def TurnK {σ : Type} (h₀ : Heap) (L : Addr) (x : Str) (Led : σ → List (Addr × Obj)) (ps : σ → List (Str × Value)) (stored : List Str) (Inv : σ → Prop) (m₀ : Str → Option Value) (h : Heap) (adr : List Addr) (own : List (Addr × Obj)) (gn : Array GenState) (dr : Drawn) (os : OsState) (Q : Flow → Shared → Prop) (f : Flow) (s₂ : Shared) : Prop :=
  match f with
  | .ret v => Q (.ret v) s₂
  | .brk => Q .next s₂
  | _ => ∃ h' tk' m' c', s₂ = ⟨h', gn, dr, tk', os⟩ ∧ Fr h₀ L h' m' ∧ News h₀ L h' (Led c' ++ own) ∧ (∀ p ∈ Led c', p.1 ∈ adr ∨ h.get? p.1 = none) ∧ Inv c' ∧
      (∀ p ∈ ps c', m' p.1 = some p.2) ∧ (∀ z, z ≠ x → (∀ p ∈ ps c', z ≠ p.1) → stored.contains z = false → m' z = m₀ z)
theorem loop_k {σ : Type} {I : Addr} {fp wr : List Addr} {n : Nat} {P : Nat → Value → Prop} {St : Nat → Heap → Prop} {m₀ : Str → Option Value} {s₀ : Heap} {tk₀ : Nat} (W : Walks prog w A I fp wr n P St) (hwx : ∀ i h, St i h → ∀ b ∈ fp, ∃ o, h.get? b = some o)
    (Led : σ → List (Addr × Obj)) (ps : σ → List (Str × Value)) (stored : List Str) (Inv : Nat → σ → Prop) (c₀ : σ)
    (hLf : env.locals ∉ fp) (hwr : ∀ b ∈ wr, h₀.get? b = none) (hnw : ∀ p ∈ Led c₀, p.1 ∉ fp) (hst : St 0 s₀) (F : Fr h₀ env.locals s₀ m₀) (N : News h₀ env.locals s₀ (Led c₀)) (hk : ∀ p ∈ ps c₀, m₀ p.1 = some p.2) (hp : Inv 0 c₀)
    (turn : ∀ i v c (u : Str → Option Value) h tk own, i < n → P i v → Inv i c → OwnOff own ((Led c).map (·.1)) → (∀ b ∈ fp, ∀ o, h.get? b = some o → h₀.get? b = none → (b, o) ∈ own) → St (i + 1) h →
      Fr h₀ env.locals h (fun y => if y = x then some v else kstB (fun z => if stored.contains z then u z else m₀ z) (ps c) y) → News h₀ env.locals h (Led c ++ own) →
      wpAny (model prog w) A (execs body env) (TurnK h₀ env.locals x Led ps stored (Inv (i + 1)) m₀ h ((Led c).map (·.1)) own gn dr os Q) E ⟨h, gn, dr, tk, os⟩)
    (done : ∀ c (u : Str → Option Value) h tk, Inv n c → Fr h₀ env.locals h (fun y => if y = x then u y else kstB (fun z => if stored.contains z then u z else m₀ z) (ps c) y) → News h₀ env.locals h (Led c) → Q .next ⟨h, gn, dr, tk, os⟩) :
    LoopAtV prog w A h₀ env x body Q E (.ref I) ⟨s₀, gn, dr, tk₀, os⟩ := by
  let J : Nat → (Str → Option Value) → List (Addr × Obj) → Prop := fun i m nx => ∃ c, nx = Led c ∧ Inv i c ∧ (∀ p ∈ nx, p.1 ∉ fp) ∧ (∀ p ∈ ps c, m p.1 = some p.2) ∧ (∀ z, z ≠ x → (∀ p ∈ ps c, z ≠ p.1) → stored.contains z = false → m z = m₀ z)
  refine ⟨I, fp, wr, n, P, St, m₀, Led c₀, J, rfl, W, hLf, hwr, fun p hp q => hnw p hp (W.sub _ q), hst, F, N, ⟨c₀, rfl, hp, hnw, hk, fun _ _ _ _ => rfl⟩, ?_, ?_⟩
  · rintro i v m₁ news₁ s₁ own ⟨h, tk, rfl⟩ hi hP ⟨c, rfl, hI, hoff, h1, h2⟩ _ hown hog hall hst' F₁ N₁
    have hsep : OwnOff own ((Led c).map (·.1)) := by
      intro p hp b hb e
      obtain ⟨q, hq, rfl⟩ := List.mem_map.mp hb
      exact hoff q hq (e ▸ hown p hp)
    refine wpAny_mono (turn i v c m₁ h tk own hi hP hI hsep (fun b hb o ho hn => hall b hb hn o ho) hst' (kst_fr h1 h2 F₁) (fun p hp => N₁ p (List.mem_append.mpr (List.mem_append.mp hp).symm))) (fun f s₂ hf => ?_) fun _ _ e => e
    have fin : (∃ h' tk' m' c', s₂ = ⟨h', gn, dr, tk', os⟩ ∧ Fr h₀ env.locals h' m' ∧ News h₀ env.locals h' (Led c' ++ own) ∧ (∀ p ∈ Led c', p.1 ∈ (Led c).map (·.1) ∨ h.get? p.1 = none) ∧ Inv (i + 1) c' ∧
      (∀ p ∈ ps c', m' p.1 = some p.2) ∧ (∀ z, z ≠ x → (∀ p ∈ ps c', z ≠ p.1) → stored.contains z = false → m' z = m₀ z)) → LoopStepU h₀ env.locals wr own (J (i + 1)) ⟨h, gn, dr, tk, os⟩ .next s₂ := by
      rintro q0
      refine let_goal ?_
      intro gl_P
      obtain ⟨h', tk', m', c', eq0, F', N', hfr, hI', g1, g2⟩ := q0
      dsimp only [gl_P]
      clear gl_P
      subst eq0
      have off : ∀ p ∈ Led c', p.1 ∉ fp := fun p hp q => by
        rcases hfr p hp with z | z
        · obtain ⟨r, hr, e⟩ := List.mem_map.mp z
          exact hoff r hr (e ▸ q)
        · obtain ⟨o, ho⟩ := hwx _ _ hst' p.1 q
          rw [z] at ho; cases ho
      exact ⟨rfl, h', tk', m', Led c', rfl, F', fun p hp => N' p (List.mem_append.mpr (List.mem_append.mp hp).symm), fun p hp q => off p hp (W.sub _ q), c', rfl, hI', off, g1, g2⟩
    cases f with
    | ret v => exact .ret hf
    | brk => exact .brk hf
    | next => exact .next (fin hf)
    | cont => exact .cont (fin hf)
  · rintro h' tk m' news' F' N' _ ⟨c, rfl, hI, _, h1, h2⟩
    exact done c m' h' tk hI (kst_frOut h1 h2 F') N'
theorem TurnK.next {σ : Type} {L : Addr} {Led : σ → List (Addr × Obj)} {ps : σ → List (Str × Value)} {stored : List Str} {Inv : σ → Prop} {m₀ m' : Str → Option Value} {h h' : Heap} {adr : List Addr} {own NL : List (Addr × Obj)} {tk' : Nat} (c' : σ)
    (F : Fr h₀ L h' m') (N : News h₀ L h' NL) (hN : ∀ p ∈ Led c' ++ own, p ∈ NL) (hfr : ∀ p ∈ Led c', p.1 ∈ adr ∨ h.get? p.1 = none) (hI : Inv c') (h1 : ∀ p ∈ ps c', m' p.1 = some p.2) (h2 : ∀ z, z ≠ x → (∀ p ∈ ps c', z ≠ p.1) → stored.contains z = false → m' z = m₀ z) :
    TurnK h₀ L x Led ps stored Inv m₀ h adr own gn dr os Q .next ⟨h', gn, dr, tk', os⟩ := ⟨h', tk', m', c', rfl, F, fun p hp => N p (hN p hp), hfr, hI, h1, h2⟩
theorem TurnK.ret {σ : Type} {L : Addr} {Led : σ → List (Addr × Obj)} {ps : σ → List (Str × Value)} {stored : List Str} {Inv : σ → Prop} {m₀ : Str → Option Value} {h : Heap} {adr : List Addr} {own : List (Addr × Obj)} {v : Value} {s₂ : Shared} (hq : Q (.ret v) s₂) :
    TurnK h₀ L x Led ps stored Inv m₀ h adr own gn dr os Q (.ret v) s₂ := hq
theorem TurnK.brk {σ : Type} {L : Addr} {Led : σ → List (Addr × Obj)} {ps : σ → List (Str × Value)} {stored : List Str} {Inv : σ → Prop} {m₀ : Str → Option Value} {h : Heap} {adr : List Addr} {own : List (Addr × Obj)} {s₂ : Shared} (hq : Q .next s₂) :
    TurnK h₀ L x Led ps stored Inv m₀ h adr own gn dr os Q .brk s₂ := hq
theorem loop_text {σ : Type} {xt : Str} {tx : Tok} {m₀ : Str → Option Value} {s₀ : Heap} {tk₀ : Nat} (Led : σ → List (Addr × Obj)) (ps : σ → List (Str × Value)) (stored : List Str) (Inv : Nat → σ → Prop) (c₀ : σ)
    (hh : A.handled = none) (F : Fr h₀ env.locals s₀ m₀) (N : News h₀ env.locals s₀ (Led c₀)) (hk : ∀ p ∈ ps c₀, m₀ p.1 = some p.2) (hp : Inv 0 c₀)
    (turn : ∀ i k t c (u : Str → Option Value) h tk own, xt.cps[i]? = some k → Inv i c → OwnOff own ((Led c).map (·.1)) →
      Fr h₀ env.locals h (fun y => if y = x then some (.str ⟨#[k]⟩ t) else kstB (fun z => if stored.contains z then u z else m₀ z) (ps c) y) → News h₀ env.locals h (Led c ++ own) →
      wpAny (model prog w) A (execs body env) (TurnK h₀ env.locals x Led ps stored (Inv (i + 1)) m₀ h ((Led c).map (·.1)) own gn dr os Q) E ⟨h, gn, dr, tk, os⟩)
    (done : ∀ c (u : Str → Option Value) h tk, Inv xt.cps.size c → Fr h₀ env.locals h (fun y => if y = x then u y else kstB (fun z => if stored.contains z then u z else m₀ z) (ps c) y) → News h₀ env.locals h (Led c) → Q .next ⟨h, gn, dr, tk, os⟩) :
    wpAny (model prog w) A (pyIter (.str xt tx)) (fun it s₂ => LoopAtV prog w A h₀ env x body Q E it s₂) E ⟨s₀, gn, dr, tk₀, os⟩ := by
  cases ha : xt.cps.all (· < 128) with
  | false =>
    refine wpAny_pyIter_wide ha ?_
    refine loop_k (Walks.strWide hh _ xt tx) (fun i h st b hb => ?_) Led ps stored Inv c₀ ?_ ?_ ?_ ⟨_, Heap.get?_push_size _ rfl, rfl, rfl⟩ (F.push _) (fun p hp => ⟨Heap.get?_push_of_some _ (N p hp).1, (N p hp).2⟩) hk hp ?_ done
    · obtain ⟨o, ho, _⟩ := st; rw [List.mem_singleton.mp hb]; exact ⟨o, ho⟩
    · intro hm; exact absurd F.ns.lt ((List.mem_singleton.mp hm) ▸ Nat.lt_irrefl _)
    · intro b' hb; rw [List.mem_singleton.mp hb]; exact next_is_new F
    · intro p hp hI; exact absurd (Heap.lt_size (N p hp).1) ((List.mem_singleton.mp hI) ▸ Nat.lt_irrefl _)
    · rintro i v c u h tk own hi ⟨k, t, hk', rfl⟩ hI ho _ _ F' N'
      exact turn i k t c u h tk own hk' hI ho F' N'
  | true =>
    refine wpAny_pyIter_ascii ha ?_
    refine loop_k (Walks.strAscii hh _ xt tx) (fun i h st b hb => ?_) Led ps stored Inv c₀ ?_ ?_ ?_ ⟨_, Heap.get?_push_size _ rfl, rfl, rfl⟩ (F.push _) (fun p hp => ⟨Heap.get?_push_of_some _ (N p hp).1, (N p hp).2⟩) hk hp ?_ done
    · obtain ⟨o, ho, _⟩ := st; rw [List.mem_singleton.mp hb]; exact ⟨o, ho⟩
    · intro hm; exact absurd F.ns.lt ((List.mem_singleton.mp hm) ▸ Nat.lt_irrefl _)
    · intro b' hb; rw [List.mem_singleton.mp hb]; exact next_is_new F
    · intro p hp hI; exact absurd (Heap.lt_size (N p hp).1) ((List.mem_singleton.mp hI) ▸ Nat.lt_irrefl _)
    · rintro i v c u h tk own hi ⟨k, t, hk', rfl⟩ hI ho _ _ F' N'
      exact turn i k t c u h tk own hk' hI ho F' N'
end
section
variable {prog : Program} {w : World} {A : Around} {E : Value → Shared → Prop} {env : Env} {h₀ : Heap} {x : Str} {body : List Stmt} {Q : Flow → Shared → Prop} {gn : Array GenState} {dr : Drawn} {os : OsState}
theorem loop_range {σ : Type} {r : Addr} {a₀ b₀ st₀ : Int} {t₀ u₀ v₀ : Tok} {n : Nat} {m₀ : Str → Option Value} {s₀ : Heap} {tk₀ : Nat} (Led : σ → List (Addr × Obj)) (ps : σ → List (Str × Value)) (stored : List Str) (Inv : Nat → σ → Prop) (c₀ : σ)
    (hh : A.handled = none) (hr : IsRange s₀ r a₀ b₀ st₀ t₀ u₀ v₀) (hsmall : Builtin.Range.small a₀ b₀ st₀ = true) (hn : Builtin.Range.rangeSize a₀ b₀ st₀ = (n : Int)) (F : Fr h₀ env.locals s₀ m₀) (N : News h₀ env.locals s₀ (Led c₀)) (hk : ∀ p ∈ ps c₀, m₀ p.1 = some p.2) (hp : Inv 0 c₀)
    (turn : ∀ i t c (u : Str → Option Value) h tk own, i < n → Inv i c → OwnOff own ((Led c).map (·.1)) →
      Fr h₀ env.locals h (fun y => if y = x then some (.int (a₀ + i * st₀) t) else kstB (fun z => if stored.contains z then u z else m₀ z) (ps c) y) → News h₀ env.locals h (Led c ++ own) →
      wpAny (model prog w) A (execs body env) (TurnK h₀ env.locals x Led ps stored (Inv (i + 1)) m₀ h ((Led c).map (·.1)) own gn dr os Q) E ⟨h, gn, dr, tk, os⟩)
    (done : ∀ c (u : Str → Option Value) h tk, Inv n c → Fr h₀ env.locals h (fun y => if y = x then u y else kstB (fun z => if stored.contains z then u z else m₀ z) (ps c) y) → News h₀ env.locals h (Led c) → Q .next ⟨h, gn, dr, tk, os⟩) :
    wpAny (model prog w) A (pyIter (.ref r)) (fun it s₂ => LoopAtV prog w A h₀ env x body Q E it s₂) E ⟨s₀, gn, dr, tk₀, os⟩ := by
  refine wpAny_pyIter_range hr hsmall ?_
  refine loop_k (Walks.range hh s₀.objs.size a₀ st₀ n) (fun i h st b hb => ?_) Led ps stored Inv c₀ ?_ ?_ ?_ (by show IsRangeIter _ _ _ _ _; rw [hn]; simpa using Heap.get?_push_size _ rfl) (F.push _) (fun p hp => ⟨Heap.get?_push_of_some _ (N p hp).1, (N p hp).2⟩) hk hp ?_ done
  · rw [List.mem_singleton.mp hb]; exact ⟨_, st⟩
  · intro hm; exact absurd F.ns.lt ((List.mem_singleton.mp hm) ▸ Nat.lt_irrefl _)
  · intro b' hb; rw [List.mem_singleton.mp hb]; exact next_is_new F
  · intro p hp hI; exact absurd (Heap.lt_size (N p hp).1) ((List.mem_singleton.mp hI) ▸ Nat.lt_irrefl _)
  · rintro i v c u h tk own hi ⟨t, rfl⟩ hI ho _ _ F' N'
    exact turn i t c u h tk own hi hI ho F' N'
theorem loop_list {σ : Type} {l : Addr} {vs : Array Value} {m₀ : Str → Option Value} {s₀ : Heap} {tk₀ : Nat} (Led : σ → List (Addr × Obj)) (ps : σ → List (Str × Value)) (stored : List Str) (Inv : Nat → σ → Prop) (c₀ : σ)
    (hh : A.handled = none) (hl : s₀.IsList l vs) (hlL : l ≠ env.locals) (hlN : ∀ p ∈ Led c₀, p.1 ≠ l) (F : Fr h₀ env.locals s₀ m₀) (N : News h₀ env.locals s₀ (Led c₀)) (hk : ∀ p ∈ ps c₀, m₀ p.1 = some p.2) (hp : Inv 0 c₀)
    (turn : ∀ i v c (u : Str → Option Value) h tk own, vs[i]? = some v → Inv i c → OwnOff own ((Led c).map (·.1)) → h.IsList l vs →
      Fr h₀ env.locals h (fun y => if y = x then some v else kstB (fun z => if stored.contains z then u z else m₀ z) (ps c) y) → News h₀ env.locals h (Led c ++ own) →
      wpAny (model prog w) A (execs body env) (TurnK h₀ env.locals x Led ps stored (Inv (i + 1)) m₀ h ((Led c).map (·.1)) own gn dr os Q) E ⟨h, gn, dr, tk, os⟩)
    (done : ∀ c (u : Str → Option Value) h tk, Inv vs.size c → Fr h₀ env.locals h (fun y => if y = x then u y else kstB (fun z => if stored.contains z then u z else m₀ z) (ps c) y) → News h₀ env.locals h (Led c) → Q .next ⟨h, gn, dr, tk, os⟩) :
    wpAny (model prog w) A (pyIter (.ref l)) (fun it s₂ => LoopAtV prog w A h₀ env x body Q E it s₂) E ⟨s₀, gn, dr, tk₀, os⟩ := by
  obtain ⟨ol, hol, hrest⟩ := id hl
  have hne : l ≠ s₀.objs.size := Nat.ne_of_lt (Heap.lt_size hol)
  refine wpAny_pyIter_list hl ?_
  refine loop_k (Walks.list hh s₀.objs.size l hne vs) (fun i h st b hb => ?_) Led ps stored Inv c₀ ?_ ?_ ?_ ⟨⟨_, Heap.get?_push_size _ rfl, rfl, rfl⟩, hl.at fun o e => Heap.get?_push_of_some _ e⟩ (F.push _) (fun p hp => ⟨Heap.get?_push_of_some _ (N p hp).1, (N p hp).2⟩) hk hp ?_ done
  · rcases List.mem_cons.mp hb with rfl | hb
    · obtain ⟨o, ho, _⟩ := st.1; exact ⟨o, ho⟩
    · rw [List.mem_singleton.mp hb]; obtain ⟨o, ho, _⟩ := st.2; exact ⟨o, ho⟩
  · intro hm
    rcases List.mem_cons.mp hm with e | hm
    · exact absurd F.ns.lt (e ▸ Nat.lt_irrefl _)
    · exact hlL (List.mem_singleton.mp hm).symm
  · intro b' hb; rw [List.mem_singleton.mp hb]; exact next_is_new F
  · intro p hp hI
    rcases List.mem_cons.mp hI with e | hI
    · exact absurd (Heap.lt_size (N p hp).1) (e ▸ Nat.lt_irrefl _)
    · exact hlN p hp (List.mem_singleton.mp hI)
  · rintro i v c u h tk own hi hv hI ho _ hst F' N'
    exact turn i v c u h tk own hv hI ho hst.2 F' N'
theorem loop_tuple {σ : Type} {l : Addr} {vs : Array Value} {m₀ : Str → Option Value} {s₀ : Heap} {tk₀ : Nat} (Led : σ → List (Addr × Obj)) (ps : σ → List (Str × Value)) (stored : List Str) (Inv : Nat → σ → Prop) (c₀ : σ)
    (hh : A.handled = none) (hl : s₀.IsTuple l vs) (hlL : l ≠ env.locals) (hlN : ∀ p ∈ Led c₀, p.1 ≠ l) (F : Fr h₀ env.locals s₀ m₀) (N : News h₀ env.locals s₀ (Led c₀)) (hk : ∀ p ∈ ps c₀, m₀ p.1 = some p.2) (hp : Inv 0 c₀)
    (turn : ∀ i v c (u : Str → Option Value) h tk own, vs[i]? = some v → Inv i c → OwnOff own ((Led c).map (·.1)) → h.IsTuple l vs →
      Fr h₀ env.locals h (fun y => if y = x then some v else kstB (fun z => if stored.contains z then u z else m₀ z) (ps c) y) → News h₀ env.locals h (Led c ++ own) →
      wpAny (model prog w) A (execs body env) (TurnK h₀ env.locals x Led ps stored (Inv (i + 1)) m₀ h ((Led c).map (·.1)) own gn dr os Q) E ⟨h, gn, dr, tk, os⟩)
    (done : ∀ c (u : Str → Option Value) h tk, Inv vs.size c → Fr h₀ env.locals h (fun y => if y = x then u y else kstB (fun z => if stored.contains z then u z else m₀ z) (ps c) y) → News h₀ env.locals h (Led c) → Q .next ⟨h, gn, dr, tk, os⟩) :
    wpAny (model prog w) A (pyIter (.ref l)) (fun it s₂ => LoopAtV prog w A h₀ env x body Q E it s₂) E ⟨s₀, gn, dr, tk₀, os⟩ := by
  obtain ⟨ol, hol, hrest⟩ := id hl
  have hne : l ≠ s₀.objs.size := Nat.ne_of_lt (Heap.lt_size hol)
  refine wpAny_pyIter_tuple hl ?_
  refine loop_k (Walks.tuple hh s₀.objs.size l hne vs) (fun i h st b hb => ?_) Led ps stored Inv c₀ ?_ ?_ ?_ ⟨⟨_, Heap.get?_push_size _ rfl, rfl, rfl⟩, hl.at fun o e => Heap.get?_push_of_some _ e⟩ (F.push _) (fun p hp => ⟨Heap.get?_push_of_some _ (N p hp).1, (N p hp).2⟩) hk hp ?_ done
  · rcases List.mem_cons.mp hb with rfl | hb
    · obtain ⟨o, ho, _⟩ := st.1; exact ⟨o, ho⟩
    · rw [List.mem_singleton.mp hb]; obtain ⟨o, ho, _⟩ := st.2; exact ⟨o, ho⟩
  · intro hm
    rcases List.mem_cons.mp hm with e | hm
    · exact absurd F.ns.lt (e ▸ Nat.lt_irrefl _)
    · exact hlL (List.mem_singleton.mp hm).symm
  · intro b' hb; rw [List.mem_singleton.mp hb]; exact next_is_new F
  · intro p hp hI
    rcases List.mem_cons.mp hI with e | hI
    · exact absurd (Heap.lt_size (N p hp).1) (e ▸ Nat.lt_irrefl _)
    · exact hlN p hp (List.mem_singleton.mp hI)
  · rintro i v c u h tk own hi hv hI ho _ hst F' N'
    exact turn i v c u h tk own hv hI ho hst.2 F' N'
end
theorem off_DW : True := by
  w_top off
  trivial
noncomputable def RawDict (h : Heap) (d : Addr) (es : Array DictEntry) (ep : Nat) : Prop := ∃ o, h.get? d = some o ∧ o.ExactDict ∧ o.data = .dict es ep
section
variable {prog : Program} {w : World} {A : Around} {E : Value → Shared → Prop} {s : Shared} {it d : Addr} {es : Array DictEntry} {i ep : Nat}
theorem RawDict.at {h h' : Heap} (x : RawDict h d es ep) (e : ∀ o, h.get? d = some o → h'.get? d = some o) : RawDict h' d es ep := by obtain ⟨o, ho, r⟩ := x; exact ⟨o, e _ ho, r⟩
theorem RawDict.typeIs (x : RawDict s.heap d es ep) : s.TypeIs (.ref d) "dict" := by obtain ⟨o, ho, hc, _⟩ := x; exact ⟨o, ho, hc.1⟩
theorem raw_iter {Q : Value → Shared → Prop} (hd : (d == sysModules) = false) (hm : RawDict s.heap d es ep)
    (hQ : Q (.ref s.heap.objs.size) { s with heap := s.heap.push { cls := .type "dict_keyiterator", data := .fields #[.ref d, .int 0 0, .int es.size 0, .int ep 0] } }) : wpAny (model prog w) A (pyIter (.ref d)) Q E s := by
  refine let_goal ?_
  intro gl_P
  obtain ⟨o, ho, hc, hdat⟩ := id hm
  dsimp only [gl_P]
  clear gl_P
  have hT := hm.typeIs
  refine wpAny_pyIter_slot hT F.slot_dict_iter (wpAny_call_entry F.slot_dict_iter hT F.entry_dict_iter ?_ (F.args_dict_iter_1 _))
  unfold Builtin.«dict.__iter__»
  refine wpAny_bind ?_
  unfold Builtin.Dict.dictSlotNone
  refine wpAny_bind (wpAny_notOrdered_dict hT ?_)
  show wpAny _ _ (pure (Value.ref d)) _ _ s
  refine wpAny_pure ?_
  show wpAny _ _ (Builtin.Dict.showsAll d >>= _) _ _ s
  unfold Builtin.Dict.showsAll
  rw [if_neg (by rw [hd]; exact Bool.false_ne_true)]
  refine wpAny_bind (wpAny_pure ?_)
  refine wpAny_bind (wpAny_dictEntries ho hdat ?_)
  refine wpAny_bind (wpAny_dictEpoch ho hdat ?_)
  refine wpAny_bind (wpAny_newObj_type (wpAny_pure ⟨_, rfl, "dict_keyiterator", _, ⟨_, Heap.get?_push_size _ rfl, rfl⟩, F.slot_dict_keyiterator_next.lookup, ?_⟩))
  simpa [rawInt] using hQ
theorem raw_item {e : DictEntry} {Q : Option Value → Shared → Prop} (hit : s.heap.IsKeyIter it d i es.size ep) (hm : RawDict s.heap d es ep) (hx : es[i]? = some e)
    (hQ : ∀ h', h'.IsKeyIter it d (i + 1) es.size ep → Heap.SameBut it s.heap h' → Q (some e.key) { s with heap := h' }) : wpAny (model prog w) A (pyNext (.ref it)) Q E s := by
  refine let_goal ?_
  intro gl_P
  obtain ⟨o, ho, hc, hd⟩ := id hit
  obtain ⟨od, hod, hcd, hdd⟩ := id hm
  dsimp only [gl_P]
  clear gl_P
  unfold pyNext
  refine wpAny_bind (wpAny_attempt (wpAny_callSpecial?_slot (name := Str.ofString "__next__") hit.typeIs F.slot_dict_keyiterator_next
    (wpAny_call_entry F.slot_dict_keyiterator_next hit.typeIs F.entry_dict_keyiterator_next ?_ (F.args_dict_keyiterator_next_1 _))))
  refine wpAny_bind (wpAny_pure ?_)
  refine wpAny_bind ?_
  refine wpAny_bind ?_
  first | refine wpAny_bind (wpAny_typeNameOfWhole_keyiter hit.typeIs (wpAny_pure ?_)) | refine wpAny_bind (wpAny_typeNameOf_keyiter hit.typeIs (wpAny_pure ?_))
  refine wpAny_bind (wpAny_fieldsOf ho hd ?_)
  have hown : Builtin.Dict_items.ownsTuple "dict_keyiterator" = false := by decide
  rw [if_neg (show ¬ (Builtin.Dict_items.ownsTuple "dict_keyiterator" = true) from fun e => Bool.noConfusion (hown.symm.trans e))]
  show wpAny _ _ (if (Value.ref d == Value.none) = true then _ else _) _ _ s
  rw [if_neg (show ¬ ((Value.ref d == Value.none) = true) from Bool.false_ne_true)]
  refine wpAny_bind (wpAny_pure ?_)
  refine wpAny_bind (wpAny_dictEntries hod hdd ?_)
  rw [if_neg (by first | walk_at "mine mem1" | simp)]
  refine wpAny_bind (wpAny_pure ?_)
  refine wpAny_bind (wpAny_dictEpoch hod hdd ?_)
  rw [if_neg (by first | walk_at "mine mem1" | simp)]
  refine wpAny_pure ?_
  dsimp only
  rw [if_neg (show ¬ ((i : Int) < 0) from om_nlt), Int.toNat_natCast, hx]
  dsimp only
  refine wpAny_bind ?_
  first | refine wpAny_bind (wpAny_typeNameOfWhole_keyiter hit.typeIs (wpAny_pure ?_)) | refine wpAny_bind (wpAny_typeNameOf_keyiter hit.typeIs (wpAny_pure ?_))
  refine wpAny_bind (wpAny_isOneOf_keyiter hit.typeIs ?_)
  show wpAny _ _ (setField (.ref it) 1 (rawInt ((i : Int) + 1)) >>= _) _ _ s
  refine wpAny_bind (wpAny_setField ho hd (by first | walk_at "mine mem1" | simp) ?_)
  have hit' : (s.heap.update it (Obj.mapFields (·.setIfInBounds 1 (rawInt ((i : Int) + 1))))).IsKeyIter it d (i + 1) es.size ep :=
    ⟨_, Heap.get?_update_self _ ho (Obj.isFreed_of_fields (Obj.data_mapFields hd _)), (Obj.cls_mapFields ..).trans hc, by rw [Obj.data_mapFields hd]; simp [rawInt]⟩
  refine wpAny_bind (wpAny_holding ?_)
  refine wpAny_bind (wpAny_isOneOf_keyiter (s := { s with heap := s.heap.update it (Obj.mapFields (·.setIfInBounds 1 (rawInt ((i : Int) + 1)))) }) hit'.typeIs ?_)
  show wpAny _ _ (pure e.key) _ _ _
  exact wpAny_pure (wpAny_pure ⟨_, rfl, wpAny_pure (hQ _ hit' (Heap.SameBut.update ..))⟩)
theorem raw_end {Q : Option Value → Shared → Prop} (hh : A.handled = none) (hit : s.heap.IsKeyIter it d i es.size ep) (hm : RawDict s.heap d es ep) (hx : es.size ≤ i)
    (hQ : ∀ h', Heap.ExtBut it s.heap h' → Q none { s with heap := h' }) : wpAny (model prog w) A (pyNext (.ref it)) Q E s := by
  refine let_goal ?_
  intro gl_P
  obtain ⟨o, ho, hc, hd⟩ := id hit
  obtain ⟨od, hod, hcd, hdd⟩ := id hm
  dsimp only [gl_P]
  clear gl_P
  unfold pyNext
  refine wpAny_bind (wpAny_attempt (wpAny_callSpecial?_slot (name := Str.ofString "__next__") hit.typeIs F.slot_dict_keyiterator_next
    (wpAny_call_entry F.slot_dict_keyiterator_next hit.typeIs F.entry_dict_keyiterator_next ?_ (F.args_dict_keyiterator_next_1 _))))
  refine wpAny_bind (wpAny_pure ?_)
  refine wpAny_bind ?_
  refine wpAny_bind ?_
  first | refine wpAny_bind (wpAny_typeNameOfWhole_keyiter hit.typeIs (wpAny_pure ?_)) | refine wpAny_bind (wpAny_typeNameOf_keyiter hit.typeIs (wpAny_pure ?_))
  refine wpAny_bind (wpAny_fieldsOf ho hd ?_)
  have hown : Builtin.Dict_items.ownsTuple "dict_keyiterator" = false := by decide
  rw [if_neg (show ¬ (Builtin.Dict_items.ownsTuple "dict_keyiterator" = true) from fun e => Bool.noConfusion (hown.symm.trans e))]
  show wpAny _ _ (if (Value.ref d == Value.none) = true then _ else _) _ _ s
  rw [if_neg (show ¬ ((Value.ref d == Value.none) = true) from Bool.false_ne_true)]
  refine wpAny_bind (wpAny_pure ?_)
  refine wpAny_bind (wpAny_dictEntries hod hdd ?_)
  rw [if_neg (by first | walk_at "mine mem1" | simp)]
  refine wpAny_bind (wpAny_pure ?_)
  refine wpAny_bind (wpAny_dictEpoch hod hdd ?_)
  rw [if_neg (by first | walk_at "mine mem1" | simp)]
  refine wpAny_pure ?_
  dsimp only
  rw [if_neg (show ¬ ((i : Int) < 0) from om_nlt), Int.toNat_natCast, Array.getElem?_eq_none hx]
  dsimp only
  refine wpAny_bind ?_
  first | refine wpAny_bind (wpAny_typeNameOfWhole_keyiter hit.typeIs (wpAny_pure ?_)) | refine wpAny_bind (wpAny_typeNameOf_keyiter hit.typeIs (wpAny_pure ?_))
  show wpAny _ _ (setField (.ref it) 0 .none >>= _) _ _ s
  refine wpAny_bind (wpAny_setField ho hd (by first | walk_at "mine mem1" | simp) ?_)
  show wpAny _ _ (newExc (.type "StopIteration") [] >>= _) _ _ _
  refine wpAny_bind ?_
  simp only [newExc, newTuple]
  refine wpAny_bind (wpAny_newObj_type ?_ (by size_fits))
  refine wpAny_bind (m := firstArgMember _ _) (wpAny_of_eq (a := Value.none) (by first | rfl | (simp only [firstArgMember]; rfl)) ?_)
  refine wpAny_newObj_type ?_ (by size_fits)
  simp only [raiseNew]
  refine wpAny_bind (wpAny_handled ?_)
  rw [show A.in1.handled = none from hh]
  refine wpAny_bind (wpAny_pure (wpAny_throw ?_))
  refine wpAny_bind (wpAny_isInstance (T := "StopIteration") (b := true) ⟨_, Heap.get?_push_size _ rfl, rfl⟩ isSubtype_stop ?_)
  exact wpAny_pure (hQ _ (((Heap.SameBut.update ..).extBut.push _).push _))
theorem raw_walks (hh : A.handled = none) (I d : Addr) (hne : d ≠ I) (es : Array DictEntry) (ep : Nat) :
    Walks prog w A I [I, d] [I] es.size (fun i v => ∃ e, es[i]? = some e ∧ v = e.key) (fun i h => h.IsKeyIter I d i es.size ep ∧ RawDict h d es ep) where
  sub := fun b hb => by simp at hb; simp [hb]
  frame := fun _ _ _ st hk => ⟨st.1.at fun o e => hk I (by first | walk_at "mine mem1" | simp) o e, st.2.at fun o e => hk d (by first | walk_at "mine mem1" | simp) o e⟩
  item := fun i s Q E hi st hQ => by
    have hx : es[i]? = some es[i] := by simp [hi]
    refine raw_item st.1 st.2 hx fun h' hit' hs' => ?_
    exact hQ _ h' s.toks ⟨_, hx, rfl⟩ ⟨hit', st.2.at fun o e => hs'.extBut _ _ hne e⟩ fun b o hb e => hs'.extBut b o (fun h => hb (by first | walk_at "mine mem1" | simp [h])) e
  done := fun s Q E st hQ => raw_end hh st.1 st.2 (Nat.le_refl _) fun h' he' => hQ h' s.toks fun b o hb e => he' b o (fun h => hb (by first | walk_at "mine mem1" | simp [h])) e
  self := fun _ _ _ _ st hQ => wpAny_pyIter_keyiter st.1 hQ
end
section
variable {prog : Program} {w : World} {A : Around} {E : Value → Shared → Prop} {env : Env} {h₀ : Heap} {x : Str} {body : List Stmt} {Q : Flow → Shared → Prop} {gn : Array GenState} {dr : Drawn} {os : OsState}
noncomputable def TurnS {σ : Type} (h₀ : Heap) (L : Addr) (x : Str) (Led : σ → List (Addr × Obj)) (ps : σ → List (Str × Value)) (stored : List Str) (Inv : σ → Prop) (m₀ : Str → Option Value) (own : List (Addr × Obj)) (gn : Array GenState) (dr : Drawn) (os : OsState) (Q : Flow → Shared → Prop) (f : Flow) (s₂ : Shared) : Prop :=
  match f with
  | .ret v => Q (.ret v) s₂
  | .brk => Q .next s₂
  | _ => ∃ h' tk' m' c', s₂ = ⟨h', gn, dr, tk', os⟩ ∧ Fr h₀ L h' m' ∧ News h₀ L h' (Led c' ++ own) ∧ OwnOff own ((Led c').map (·.1)) ∧ Inv c' ∧
      (∀ p ∈ ps c', m' p.1 = some p.2) ∧ (∀ z, z ≠ x → (∀ p ∈ ps c', z ≠ p.1) → stored.contains z = false → m' z = m₀ z)
theorem loop_s {σ : Type} {I : Addr} {fp wr : List Addr} {n : Nat} {P : Nat → Value → Prop} {St : Nat → Heap → Prop} {m₀ : Str → Option Value} {s₀ : Heap} {tk₀ : Nat} (W : Walks prog w A I fp wr n P St) (hwx : ∀ i h, St i h → ∀ b ∈ fp, ∃ o, h.get? b = some o)
    (Led : σ → List (Addr × Obj)) (ps : σ → List (Str × Value)) (stored : List Str) (Inv : Nat → σ → Prop) (c₀ : σ)
    (hLf : env.locals ∉ fp) (hwr : ∀ b ∈ wr, h₀.get? b = none) (hnw : ∀ p ∈ Led c₀, p.1 ∉ fp) (hst : St 0 s₀) (F : Fr h₀ env.locals s₀ m₀) (N : News h₀ env.locals s₀ (Led c₀)) (hk : ∀ p ∈ ps c₀, m₀ p.1 = some p.2) (hp : Inv 0 c₀)
    (turn : ∀ i v c (u : Str → Option Value) h tk own, i < n → P i v → Inv i c → OwnOff own ((Led c).map (·.1)) → (∀ b ∈ fp, ∀ o, h.get? b = some o → h₀.get? b = none → (b, o) ∈ own) → St (i + 1) h →
      Fr h₀ env.locals h (fun y => if y = x then some v else kstB (fun z => if stored.contains z then u z else m₀ z) (ps c) y) → News h₀ env.locals h (Led c ++ own) →
      wpAny (model prog w) A (execs body env) (TurnS h₀ env.locals x Led ps stored (Inv (i + 1)) m₀ own gn dr os Q) E ⟨h, gn, dr, tk, os⟩)
    (done : ∀ c (u : Str → Option Value) h tk, Inv n c → Fr h₀ env.locals h (fun y => if y = x then u y else kstB (fun z => if stored.contains z then u z else m₀ z) (ps c) y) → News h₀ env.locals h (Led c) → Q .next ⟨h, gn, dr, tk, os⟩) :
    LoopAtV prog w A h₀ env x body Q E (.ref I) ⟨s₀, gn, dr, tk₀, os⟩ := by
  let J : Nat → (Str → Option Value) → List (Addr × Obj) → Prop := fun i m nx => ∃ c, nx = Led c ∧ Inv i c ∧ (∀ p ∈ nx, p.1 ∉ fp) ∧ (∀ p ∈ ps c, m p.1 = some p.2) ∧ (∀ z, z ≠ x → (∀ p ∈ ps c, z ≠ p.1) → stored.contains z = false → m z = m₀ z)
  refine ⟨I, fp, wr, n, P, St, m₀, Led c₀, J, rfl, W, hLf, hwr, fun p hp q => hnw p hp (W.sub _ q), hst, F, N, ⟨c₀, rfl, hp, hnw, hk, fun _ _ _ _ => rfl⟩, ?_, ?_⟩
  · rintro i v m₁ news₁ s₁ own ⟨h, tk, rfl⟩ hi hP ⟨c, rfl, hI, hoff, h1, h2⟩ _ hown hog hall hst' F₁ N₁
    have hsep : OwnOff own ((Led c).map (·.1)) := by
      intro p hp b hb e
      obtain ⟨q, hq, rfl⟩ := List.mem_map.mp hb
      exact hoff q hq (e ▸ hown p hp)
    refine wpAny_mono (turn i v c m₁ h tk own hi hP hI hsep (fun b hb o ho hn => hall b hb hn o ho) hst' (kst_fr h1 h2 F₁) (fun p hp => N₁ p (List.mem_append.mpr (List.mem_append.mp hp).symm))) (fun f s₂ hf => ?_) fun _ _ e => e
    have fin : (∃ h' tk' m' c', s₂ = ⟨h', gn, dr, tk', os⟩ ∧ Fr h₀ env.locals h' m' ∧ News h₀ env.locals h' (Led c' ++ own) ∧ OwnOff own ((Led c').map (·.1)) ∧ Inv (i + 1) c' ∧
      (∀ p ∈ ps c', m' p.1 = some p.2) ∧ (∀ z, z ≠ x → (∀ p ∈ ps c', z ≠ p.1) → stored.contains z = false → m' z = m₀ z)) → LoopStepU h₀ env.locals wr own (J (i + 1)) ⟨h, gn, dr, tk, os⟩ .next s₂ := by
      rintro q0
      refine let_goal ?_
      intro gl_P
      obtain ⟨h', tk', m', c', eq0, F', N', hfr, hI', g1, g2⟩ := q0
      dsimp only [gl_P]
      clear gl_P
      subst eq0
      have off : ∀ p ∈ Led c', p.1 ∉ fp := fun p hp q => by
        obtain ⟨o, ho⟩ := hwx _ _ hst' p.1 q
        have hno := (N' p (List.mem_append.mpr (.inl hp))).2.2
        exact hfr _ (hall p.1 q hno o ho) _ (List.mem_map.mpr ⟨p, hp, rfl⟩) rfl
      exact ⟨rfl, h', tk', m', Led c', rfl, F', fun p hp => N' p (List.mem_append.mpr (List.mem_append.mp hp).symm), fun p hp q => off p hp (W.sub _ q), c', rfl, hI', off, g1, g2⟩
    cases f with
    | ret v => exact .ret hf
    | brk => exact .brk hf
    | next => exact .next (fin hf)
    | cont => exact .cont (fin hf)
  · rintro h' tk m' news' F' N' _ ⟨c, rfl, hI, _, h1, h2⟩
    exact done c m' h' tk hI (kst_frOut h1 h2 F') N'
theorem TurnS.next {σ : Type} {L : Addr} {Led : σ → List (Addr × Obj)} {ps : σ → List (Str × Value)} {stored : List Str} {Inv : σ → Prop} {m₀ m' : Str → Option Value} {h' : Heap} {own NL : List (Addr × Obj)} {tk' : Nat} (c' : σ)
    (F : Fr h₀ L h' m') (N : News h₀ L h' NL) (hN : ∀ p ∈ Led c' ++ own, p ∈ NL) (hfr : OwnOff own ((Led c').map (·.1))) (hI : Inv c') (h1 : ∀ p ∈ ps c', m' p.1 = some p.2) (h2 : ∀ z, z ≠ x → (∀ p ∈ ps c', z ≠ p.1) → stored.contains z = false → m' z = m₀ z) :
    TurnS h₀ L x Led ps stored Inv m₀ own gn dr os Q .next ⟨h', gn, dr, tk', os⟩ := ⟨h', tk', m', c', rfl, F, fun p hp => N p (hN p hp), hfr, hI, h1, h2⟩
theorem TurnS.ret {σ : Type} {L : Addr} {Led : σ → List (Addr × Obj)} {ps : σ → List (Str × Value)} {stored : List Str} {Inv : σ → Prop} {m₀ : Str → Option Value} {own : List (Addr × Obj)} {v : Value} {s₂ : Shared} (hq : Q (.ret v) s₂) :
    TurnS h₀ L x Led ps stored Inv m₀ own gn dr os Q (.ret v) s₂ := hq
theorem TurnS.brk {σ : Type} {L : Addr} {Led : σ → List (Addr × Obj)} {ps : σ → List (Str × Value)} {stored : List Str} {Inv : σ → Prop} {m₀ : Str → Option Value} {own : List (Addr × Obj)} {s₂ : Shared} (hq : Q .next s₂) :
    TurnS h₀ L x Led ps stored Inv m₀ own gn dr os Q .brk s₂ := hq
theorem texts_s {σ : Type} {xt : Str} {tx : Tok} {m₀ : Str → Option Value} {s₀ : Heap} {tk₀ : Nat} (Led : σ → List (Addr × Obj)) (ps : σ → List (Str × Value)) (stored : List Str) (Inv : Nat → σ → Prop) (c₀ : σ)
    (hh : A.handled = none) (F : Fr h₀ env.locals s₀ m₀) (N : News h₀ env.locals s₀ (Led c₀)) (hk : ∀ p ∈ ps c₀, m₀ p.1 = some p.2) (hp : Inv 0 c₀)
    (turn : ∀ i k t c (u : Str → Option Value) h tk own, xt.cps[i]? = some k → Inv i c → OwnOff own ((Led c).map (·.1)) →
      Fr h₀ env.locals h (fun y => if y = x then some (.str ⟨#[k]⟩ t) else kstB (fun z => if stored.contains z then u z else m₀ z) (ps c) y) → News h₀ env.locals h (Led c ++ own) →
      wpAny (model prog w) A (execs body env) (TurnS h₀ env.locals x Led ps stored (Inv (i + 1)) m₀ own gn dr os Q) E ⟨h, gn, dr, tk, os⟩)
    (done : ∀ c (u : Str → Option Value) h tk, Inv xt.cps.size c → Fr h₀ env.locals h (fun y => if y = x then u y else kstB (fun z => if stored.contains z then u z else m₀ z) (ps c) y) → News h₀ env.locals h (Led c) → Q .next ⟨h, gn, dr, tk, os⟩) :
    wpAny (model prog w) A (pyIter (.str xt tx)) (fun it s₂ => LoopAtV prog w A h₀ env x body Q E it s₂) E ⟨s₀, gn, dr, tk₀, os⟩ := by
  cases ha : xt.cps.all (· < 128) with
  | false =>
    refine wpAny_pyIter_wide ha ?_
    refine loop_s (Walks.strWide hh _ xt tx) (fun i h st b hb => ?_) Led ps stored Inv c₀ ?_ ?_ ?_ ⟨_, Heap.get?_push_size _ rfl, rfl, rfl⟩ (F.push _) (fun p hp => ⟨Heap.get?_push_of_some _ (N p hp).1, (N p hp).2⟩) hk hp ?_ done
    · obtain ⟨o, ho, _⟩ := st; rw [List.mem_singleton.mp hb]; exact ⟨o, ho⟩
    · intro hm; exact absurd F.ns.lt ((List.mem_singleton.mp hm) ▸ Nat.lt_irrefl _)
    · intro b' hb; rw [List.mem_singleton.mp hb]; exact next_is_new F
    · intro p hp hI; exact absurd (Heap.lt_size (N p hp).1) ((List.mem_singleton.mp hI) ▸ Nat.lt_irrefl _)
    · rintro i v c u h tk own hi ⟨k, t, hk', rfl⟩ hI ho _ _ F' N'
      exact turn i k t c u h tk own hk' hI ho F' N'
  | true =>
    refine wpAny_pyIter_ascii ha ?_
    refine loop_s (Walks.strAscii hh _ xt tx) (fun i h st b hb => ?_) Led ps stored Inv c₀ ?_ ?_ ?_ ⟨_, Heap.get?_push_size _ rfl, rfl, rfl⟩ (F.push _) (fun p hp => ⟨Heap.get?_push_of_some _ (N p hp).1, (N p hp).2⟩) hk hp ?_ done
    · obtain ⟨o, ho, _⟩ := st; rw [List.mem_singleton.mp hb]; exact ⟨o, ho⟩
    · intro hm; exact absurd F.ns.lt ((List.mem_singleton.mp hm) ▸ Nat.lt_irrefl _)
    · intro b' hb; rw [List.mem_singleton.mp hb]; exact next_is_new F
    · intro p hp hI; exact absurd (Heap.lt_size (N p hp).1) ((List.mem_singleton.mp hI) ▸ Nat.lt_irrefl _)
    · rintro i v c u h tk own hi ⟨k, t, hk', rfl⟩ hI ho _ _ F' N'
      exact turn i k t c u h tk own hk' hI ho F' N'
end
section
variable {prog : Program} {w : World} {A : Around} {E : Value → Shared → Prop} {env : Env} {h₀ : Heap} {x : Str} {body : List Stmt} {Q : Flow → Shared → Prop} {gn : Array GenState} {dr : Drawn} {os : OsState}
theorem range_s {σ : Type} {r : Addr} {a₀ b₀ st₀ : Int} {t₀ u₀ v₀ : Tok} {n : Nat} {m₀ : Str → Option Value} {s₀ : Heap} {tk₀ : Nat} (Led : σ → List (Addr × Obj)) (ps : σ → List (Str × Value)) (stored : List Str) (Inv : Nat → σ → Prop) (c₀ : σ)
    (hh : A.handled = none) (hr : IsRange s₀ r a₀ b₀ st₀ t₀ u₀ v₀) (hsmall : Builtin.Range.small a₀ b₀ st₀ = true) (hn : Builtin.Range.rangeSize a₀ b₀ st₀ = (n : Int)) (F : Fr h₀ env.locals s₀ m₀) (N : News h₀ env.locals s₀ (Led c₀)) (hk : ∀ p ∈ ps c₀, m₀ p.1 = some p.2) (hp : Inv 0 c₀)
    (turn : ∀ i t c (u : Str → Option Value) h tk own, i < n → Inv i c → OwnOff own ((Led c).map (·.1)) →
      Fr h₀ env.locals h (fun y => if y = x then some (.int (a₀ + i * st₀) t) else kstB (fun z => if stored.contains z then u z else m₀ z) (ps c) y) → News h₀ env.locals h (Led c ++ own) →
      wpAny (model prog w) A (execs body env) (TurnS h₀ env.locals x Led ps stored (Inv (i + 1)) m₀ own gn dr os Q) E ⟨h, gn, dr, tk, os⟩)
    (done : ∀ c (u : Str → Option Value) h tk, Inv n c → Fr h₀ env.locals h (fun y => if y = x then u y else kstB (fun z => if stored.contains z then u z else m₀ z) (ps c) y) → News h₀ env.locals h (Led c) → Q .next ⟨h, gn, dr, tk, os⟩) :
    wpAny (model prog w) A (pyIter (.ref r)) (fun it s₂ => LoopAtV prog w A h₀ env x body Q E it s₂) E ⟨s₀, gn, dr, tk₀, os⟩ := by
  refine wpAny_pyIter_range hr hsmall ?_
  refine loop_s (Walks.range hh s₀.objs.size a₀ st₀ n) (fun i h st b hb => ?_) Led ps stored Inv c₀ ?_ ?_ ?_ (by show IsRangeIter _ _ _ _ _; rw [hn]; simpa using Heap.get?_push_size _ rfl) (F.push _) (fun p hp => ⟨Heap.get?_push_of_some _ (N p hp).1, (N p hp).2⟩) hk hp ?_ done
  · rw [List.mem_singleton.mp hb]; exact ⟨_, st⟩
  · intro hm; exact absurd F.ns.lt ((List.mem_singleton.mp hm) ▸ Nat.lt_irrefl _)
  · intro b' hb; rw [List.mem_singleton.mp hb]; exact next_is_new F
  · intro p hp hI; exact absurd (Heap.lt_size (N p hp).1) ((List.mem_singleton.mp hI) ▸ Nat.lt_irrefl _)
  · rintro i v c u h tk own hi ⟨t, rfl⟩ hI ho _ _ F' N'
    exact turn i t c u h tk own hi hI ho F' N'
theorem list_s {σ : Type} {l : Addr} {vs : Array Value} {m₀ : Str → Option Value} {s₀ : Heap} {tk₀ : Nat} (Led : σ → List (Addr × Obj)) (ps : σ → List (Str × Value)) (stored : List Str) (Inv : Nat → σ → Prop) (c₀ : σ)
    (hh : A.handled = none) (hl : s₀.IsList l vs) (hlL : l ≠ env.locals) (hlN : ∀ p ∈ Led c₀, p.1 ≠ l) (F : Fr h₀ env.locals s₀ m₀) (N : News h₀ env.locals s₀ (Led c₀)) (hk : ∀ p ∈ ps c₀, m₀ p.1 = some p.2) (hp : Inv 0 c₀)
    (turn : ∀ i v c (u : Str → Option Value) h tk own, vs[i]? = some v → Inv i c → OwnOff own ((Led c).map (·.1)) → h.IsList l vs →
      Fr h₀ env.locals h (fun y => if y = x then some v else kstB (fun z => if stored.contains z then u z else m₀ z) (ps c) y) → News h₀ env.locals h (Led c ++ own) →
      wpAny (model prog w) A (execs body env) (TurnS h₀ env.locals x Led ps stored (Inv (i + 1)) m₀ own gn dr os Q) E ⟨h, gn, dr, tk, os⟩)
    (done : ∀ c (u : Str → Option Value) h tk, Inv vs.size c → Fr h₀ env.locals h (fun y => if y = x then u y else kstB (fun z => if stored.contains z then u z else m₀ z) (ps c) y) → News h₀ env.locals h (Led c) → Q .next ⟨h, gn, dr, tk, os⟩) :
    wpAny (model prog w) A (pyIter (.ref l)) (fun it s₂ => LoopAtV prog w A h₀ env x body Q E it s₂) E ⟨s₀, gn, dr, tk₀, os⟩ := by
  obtain ⟨ol, hol, hrest⟩ := id hl
  have hne : l ≠ s₀.objs.size := Nat.ne_of_lt (Heap.lt_size hol)
  refine wpAny_pyIter_list hl ?_
  refine loop_s (Walks.list hh s₀.objs.size l hne vs) (fun i h st b hb => ?_) Led ps stored Inv c₀ ?_ ?_ ?_ ⟨⟨_, Heap.get?_push_size _ rfl, rfl, rfl⟩, hl.at fun o e => Heap.get?_push_of_some _ e⟩ (F.push _) (fun p hp => ⟨Heap.get?_push_of_some _ (N p hp).1, (N p hp).2⟩) hk hp ?_ done
  · rcases List.mem_cons.mp hb with rfl | hb
    · obtain ⟨o, ho, _⟩ := st.1; exact ⟨o, ho⟩
    · rw [List.mem_singleton.mp hb]; obtain ⟨o, ho, _⟩ := st.2; exact ⟨o, ho⟩
  · intro hm
    rcases List.mem_cons.mp hm with e | hm
    · exact absurd F.ns.lt (e ▸ Nat.lt_irrefl _)
    · exact hlL (List.mem_singleton.mp hm).symm
  · intro b' hb; rw [List.mem_singleton.mp hb]; exact next_is_new F
  · intro p hp hI
    rcases List.mem_cons.mp hI with e | hI
    · exact absurd (Heap.lt_size (N p hp).1) (e ▸ Nat.lt_irrefl _)
    · exact hlN p hp (List.mem_singleton.mp hI)
  · rintro i v c u h tk own hi hv hI ho _ hst F' N'
    exact turn i v c u h tk own hv hI ho hst.2 F' N'
theorem tuple_s {σ : Type} {l : Addr} {vs : Array Value} {m₀ : Str → Option Value} {s₀ : Heap} {tk₀ : Nat} (Led : σ → List (Addr × Obj)) (ps : σ → List (Str × Value)) (stored : List Str) (Inv : Nat → σ → Prop) (c₀ : σ)
    (hh : A.handled = none) (hl : s₀.IsTuple l vs) (hlL : l ≠ env.locals) (hlN : ∀ p ∈ Led c₀, p.1 ≠ l) (F : Fr h₀ env.locals s₀ m₀) (N : News h₀ env.locals s₀ (Led c₀)) (hk : ∀ p ∈ ps c₀, m₀ p.1 = some p.2) (hp : Inv 0 c₀)
    (turn : ∀ i v c (u : Str → Option Value) h tk own, vs[i]? = some v → Inv i c → OwnOff own ((Led c).map (·.1)) → h.IsTuple l vs →
      Fr h₀ env.locals h (fun y => if y = x then some v else kstB (fun z => if stored.contains z then u z else m₀ z) (ps c) y) → News h₀ env.locals h (Led c ++ own) →
      wpAny (model prog w) A (execs body env) (TurnS h₀ env.locals x Led ps stored (Inv (i + 1)) m₀ own gn dr os Q) E ⟨h, gn, dr, tk, os⟩)
    (done : ∀ c (u : Str → Option Value) h tk, Inv vs.size c → Fr h₀ env.locals h (fun y => if y = x then u y else kstB (fun z => if stored.contains z then u z else m₀ z) (ps c) y) → News h₀ env.locals h (Led c) → Q .next ⟨h, gn, dr, tk, os⟩) :
    wpAny (model prog w) A (pyIter (.ref l)) (fun it s₂ => LoopAtV prog w A h₀ env x body Q E it s₂) E ⟨s₀, gn, dr, tk₀, os⟩ := by
  obtain ⟨ol, hol, hrest⟩ := id hl
  have hne : l ≠ s₀.objs.size := Nat.ne_of_lt (Heap.lt_size hol)
  refine wpAny_pyIter_tuple hl ?_
  refine loop_s (Walks.tuple hh s₀.objs.size l hne vs) (fun i h st b hb => ?_) Led ps stored Inv c₀ ?_ ?_ ?_ ⟨⟨_, Heap.get?_push_size _ rfl, rfl, rfl⟩, hl.at fun o e => Heap.get?_push_of_some _ e⟩ (F.push _) (fun p hp => ⟨Heap.get?_push_of_some _ (N p hp).1, (N p hp).2⟩) hk hp ?_ done
  · rcases List.mem_cons.mp hb with rfl | hb
    · obtain ⟨o, ho, _⟩ := st.1; exact ⟨o, ho⟩
    · rw [List.mem_singleton.mp hb]; obtain ⟨o, ho, _⟩ := st.2; exact ⟨o, ho⟩
  · intro hm
    rcases List.mem_cons.mp hm with e | hm
    · exact absurd F.ns.lt (e ▸ Nat.lt_irrefl _)
    · exact hlL (List.mem_singleton.mp hm).symm
  · intro b' hb; rw [List.mem_singleton.mp hb]; exact next_is_new F
  · intro p hp hI
    rcases List.mem_cons.mp hI with e | hI
    · exact absurd (Heap.lt_size (N p hp).1) (e ▸ Nat.lt_irrefl _)
    · exact hlN p hp (List.mem_singleton.mp hI)
  · rintro i v c u h tk own hi hv hI ho _ hst F' N'
    exact turn i v c u h tk own hv hI ho hst.2 F' N'
end
section
variable {prog : Program} {w : World} {A : Around} {E : Value → Shared → Prop} {env : Env} {h₀ : Heap} {x : Str} {body : List Stmt} {Q : Flow → Shared → Prop} {gn : Array GenState} {dr : Drawn} {os : OsState}
theorem dict_s {σ : Type} {l : Addr} {es : Array DictEntry} {ep : Nat} {m₀ : Str → Option Value} {s₀ : Heap} {tk₀ : Nat} (Led : σ → List (Addr × Obj)) (ps : σ → List (Str × Value)) (stored : List Str) (Inv : Nat → σ → Prop) (c₀ : σ)
    (hh : A.handled = none) (low : (l == sysModules) = false) {o₀ : Obj} (ho₀ : h₀.get? l = some o₀) (hc₀ : o₀.ExactDict) (hd₀ : o₀.data = .dict es ep) (F : Fr h₀ env.locals s₀ m₀) (N : News h₀ env.locals s₀ (Led c₀)) (hk : ∀ p ∈ ps c₀, m₀ p.1 = some p.2) (hp : Inv 0 c₀)
    (turn : ∀ i e c (u : Str → Option Value) h tk own, es[i]? = some e → Inv i c → OwnOff own ((Led c).map (·.1)) →
      Fr h₀ env.locals h (fun y => if y = x then some e.key else kstB (fun z => if stored.contains z then u z else m₀ z) (ps c) y) → News h₀ env.locals h (Led c ++ own) →
      wpAny (model prog w) A (execs body env) (TurnS h₀ env.locals x Led ps stored (Inv (i + 1)) m₀ own gn dr os Q) E ⟨h, gn, dr, tk, os⟩)
    (done : ∀ c (u : Str → Option Value) h tk, Inv es.size c → Fr h₀ env.locals h (fun y => if y = x then u y else kstB (fun z => if stored.contains z then u z else m₀ z) (ps c) y) → News h₀ env.locals h (Led c) → Q .next ⟨h, gn, dr, tk, os⟩) :
    wpAny (model prog w) A (pyIter (.ref l)) (fun it s₂ => LoopAtV prog w A h₀ env x body Q E it s₂) E ⟨s₀, gn, dr, tk₀, os⟩ := by
  have hl : RawDict s₀ l es ep := ⟨o₀, F.keep _ _ ho₀, hc₀, hd₀⟩
  have hlL : l ≠ env.locals := fun e => absurd (Heap.lt_size ho₀) (Nat.not_lt.mpr (e ▸ F.above))
  have hlN : ∀ p ∈ Led c₀, p.1 ≠ l := fun p hp e => by
    have := (N p hp).2.2
    rw [e, ho₀] at this; cases this
  obtain ⟨ol, hol, hrest⟩ := id hl
  have hne : l ≠ s₀.objs.size := Nat.ne_of_lt (Heap.lt_size hol)
  refine raw_iter low hl ?_
  refine loop_s (raw_walks hh s₀.objs.size l hne es ep) (fun i h st b hb => ?_) Led ps stored Inv c₀ ?_ ?_ ?_ ⟨⟨_, Heap.get?_push_size _ rfl, rfl, by simp⟩, hl.at fun o e => Heap.get?_push_of_some _ e⟩ (F.push _) (fun p hp => ⟨Heap.get?_push_of_some _ (N p hp).1, (N p hp).2⟩) hk hp ?_ done
  · rcases List.mem_cons.mp hb with rfl | hb
    · obtain ⟨o, ho, _⟩ := st.1; exact ⟨o, ho⟩
    · rw [List.mem_singleton.mp hb]; obtain ⟨o, ho, _⟩ := st.2; exact ⟨o, ho⟩
  · intro hm
    rcases List.mem_cons.mp hm with e | hm
    · exact absurd F.ns.lt (e ▸ Nat.lt_irrefl _)
    · exact hlL (List.mem_singleton.mp hm).symm
  · intro b' hb; rw [List.mem_singleton.mp hb]; exact next_is_new F
  · intro p hp hI
    rcases List.mem_cons.mp hI with e | hI
    · exact absurd (Heap.lt_size (N p hp).1) (e ▸ Nat.lt_irrefl _)
    · exact hlN p hp (List.mem_singleton.mp hI)
  · rintro i v c u h tk own hi ⟨e, he, rfl⟩ hI ho _ hst F' N'
    exact turn i e c u h tk own he hI ho F' N'
end
section
variable {prog : Program} {w : World} {A : Around} {E : Value → Shared → Prop} {env : Env} {h₀ : Heap} {target : PySem.Expr} {body : List Stmt} {Q : Flow → Shared → Prop} {gn : Array GenState} {dr : Drawn} {os : OsState}
noncomputable def TurnN {σ : Type} (h₀ : Heap) (L : Addr) (Led : σ → List (Addr × Obj)) (ps : σ → List (Str × Value)) (stored : List Str) (Inv : σ → Prop) (m₀ : Str → Option Value) (own : List (Addr × Obj)) (gn : Array GenState) (dr : Drawn) (os : OsState) (f : Flow) (s₂ : Shared) : Prop :=
  f = .next ∧ ∃ h' tk' m' c', s₂ = ⟨h', gn, dr, tk', os⟩ ∧ Fr h₀ L h' m' ∧ News h₀ L h' (Led c' ++ own) ∧ OwnOff own ((Led c').map (·.1)) ∧ Inv c' ∧ (∀ p ∈ ps c', m' p.1 = some p.2) ∧ (∀ z, (∀ p ∈ ps c', z ≠ p.1) → stored.contains z = false → m' z = m₀ z)
theorem TurnN.next {σ : Type} {L : Addr} {Led : σ → List (Addr × Obj)} {ps : σ → List (Str × Value)} {stored : List Str} {Inv : σ → Prop} {m₀ m' : Str → Option Value} {h' : Heap} {own NL : List (Addr × Obj)} {tk' : Nat} (c' : σ)
    (F : Fr h₀ L h' m') (N : News h₀ L h' NL) (hN : ∀ p ∈ Led c' ++ own, p ∈ NL) (hfr : OwnOff own ((Led c').map (·.1))) (hI : Inv c') (h1 : ∀ p ∈ ps c', m' p.1 = some p.2) (h2 : ∀ z, (∀ p ∈ ps c', z ≠ p.1) → stored.contains z = false → m' z = m₀ z) :
    TurnN h₀ L Led ps stored Inv m₀ own gn dr os .next ⟨h', gn, dr, tk', os⟩ := ⟨rfl, h', tk', m', c', rfl, F, fun p hp => N p (hN p hp), hfr, hI, h1, h2⟩
theorem list_t {σ : Type} {l : Addr} {vs : Array Value} {m₀ : Str → Option Value} {s₀ : Heap} {tk₀ : Nat} (Led : σ → List (Addr × Obj)) (ps : σ → List (Str × Value)) (stored : List Str) (Inv : Nat → σ → Prop) (c₀ : σ)
    (hh : A.handled = none) (hl : s₀.IsList l vs) (hlL : l ≠ env.locals) (hlN : ∀ p ∈ Led c₀, p.1 ≠ l) (F : Fr h₀ env.locals s₀ m₀) (N : News h₀ env.locals s₀ (Led c₀)) (hk : ∀ p ∈ ps c₀, m₀ p.1 = some p.2) (hp : Inv 0 c₀)
    (turn : ∀ i v c (u : Str → Option Value) h tk own gn dr os, vs[i]? = some v → Inv i c → OwnOff own ((Led c).map (·.1)) →
      Fr h₀ env.locals h (kstB (fun z => if stored.contains z then u z else m₀ z) (ps c)) → News h₀ env.locals h (Led c ++ own) →
      wpAny (model prog w) A (assign target env v) (fun _ s₃ => wpAny (model prog w) A (execs body env) (TurnN h₀ env.locals Led ps stored (Inv (i + 1)) m₀ own gn dr os) E s₃) E ⟨h, gn, dr, tk, os⟩)
    (done : ∀ c (u : Str → Option Value) h tk, Inv vs.size c → Fr h₀ env.locals h (kstB (fun z => if stored.contains z then u z else m₀ z) (ps c)) → News h₀ env.locals h (Led c) → Q .next ⟨h, gn, dr, tk, os⟩) :
    wpAny (model prog w) A (pyIter (.ref l)) (fun it s₂ => LoopAtT prog w A h₀ env target body Q E it s₂) E ⟨s₀, gn, dr, tk₀, os⟩ := by
  obtain ⟨ol, hol, hrest⟩ := id hl
  have hne : l ≠ s₀.objs.size := Nat.ne_of_lt (Heap.lt_size hol)
  refine wpAny_pyIter_list hl ?_
  have hex : ∀ (i : Nat) (h : Heap), (h.IsListIter s₀.objs.size l i ∧ h.IsList l vs) → ∀ b ∈ [s₀.objs.size, l], ∃ o, h.get? b = some o := fun i h st b hb => by
    rcases List.mem_cons.mp hb with rfl | hb
    · obtain ⟨o, ho, _⟩ := st.1; exact ⟨o, ho⟩
    · rw [List.mem_singleton.mp hb]; obtain ⟨o, ho, _⟩ := st.2; exact ⟨o, ho⟩
  let J : Nat → (Str → Option Value) → List (Addr × Obj) → Prop := fun i m nx => ∃ c, nx = Led c ∧ Inv i c ∧ (∀ p ∈ nx, p.1 ∉ [s₀.objs.size, l]) ∧ (∀ p ∈ ps c, m p.1 = some p.2) ∧ (∀ z, (∀ p ∈ ps c, z ≠ p.1) → stored.contains z = false → m z = m₀ z)
  have em : ∀ (m : Str → Option Value) c, (∀ p ∈ ps c, m p.1 = some p.2) → (∀ z, (∀ p ∈ ps c, z ≠ p.1) → stored.contains z = false → m z = m₀ z) → kstB (fun z => if stored.contains z then m z else m₀ z) (ps c) = m := fun m c h1 h2 => by
    funext z
    refine kstB_eq h1 fun hz => ?_
    cases q : stored.contains z with
    | true => simp
    | false => simp only [Bool.false_eq_true, if_false]; exact (h2 z hz q).symm
  refine ⟨s₀.objs.size, [s₀.objs.size, l], [s₀.objs.size], vs.size, _, _, m₀, Led c₀, J, rfl, Walks.list hh s₀.objs.size l hne vs, ?_, ?_, ?_, ⟨⟨_, Heap.get?_push_size _ rfl, rfl, rfl⟩, hl.at fun o e => Heap.get?_push_of_some _ e⟩, F.push _, (fun p hp => ⟨Heap.get?_push_of_some _ (N p hp).1, (N p hp).2⟩), fun i s' v Q' st hq => letGo_listiter st.1 hq, ⟨c₀, rfl, hp, ?_, hk, fun _ _ _ => rfl⟩, ?_, ?_⟩
  · intro hm
    rcases List.mem_cons.mp hm with e | hm
    · exact absurd F.ns.lt (e ▸ Nat.lt_irrefl _)
    · exact hlL (List.mem_singleton.mp hm).symm
  · intro b' hb; rw [List.mem_singleton.mp hb]; exact next_is_new F
  · intro p hp hI; exact absurd (Heap.lt_size (N p hp).1) ((List.mem_singleton.mp hI) ▸ Nat.lt_irrefl _)
  · intro p hp hI
    rcases List.mem_cons.mp hI with e | hI
    · exact absurd (Heap.lt_size (N p hp).1) (e ▸ Nat.lt_irrefl _)
    · exact hlN p hp (List.mem_singleton.mp hI)
  · rintro i v m₁ news₁ ⟨h, g1, d1, tk, o1⟩ own hi hP ⟨c, rfl, hI, hoff, h1, h2⟩ _ hown hog hall hst' F₁ N₁
    have hsep : OwnOff own ((Led c).map (·.1)) := by
      intro p hp b hb e
      obtain ⟨q, hq, rfl⟩ := List.mem_map.mp hb
      exact hoff q hq (e ▸ hown p hp)
    refine wpAny_mono (turn i v c m₁ h tk own g1 d1 o1 hP hI hsep (by rw [em m₁ c h1 h2]; exact F₁) (fun p hp => N₁ p (List.mem_append.mpr (List.mem_append.mp hp).symm))) (fun _ s₂ hs => wpAny_mono hs (fun f s₃ hf => ?_) fun _ _ e => e) fun _ _ e => e
    obtain ⟨rfl, h', tk', m', c', rfl, F', N', hfr, hI', g1', g2'⟩ := hf
    have off : ∀ p ∈ Led c', p.1 ∉ [s₀.objs.size, l] := fun p hp q => by
      obtain ⟨o, ho⟩ := hex _ _ hst' p.1 q
      have hno := (N' p (List.mem_append.mpr (.inl hp))).2.2
      exact hfr _ (hall p.1 q hno o ho) _ (List.mem_map.mpr ⟨p, hp, rfl⟩) rfl
    exact ⟨rfl, h', tk', m', Led c', rfl, F', fun p hp => N' p (List.mem_append.mpr (List.mem_append.mp hp).symm), fun p hp q => off p hp (List.mem_cons.mpr (.inl (List.mem_singleton.mp q))), c', rfl, hI', off, g1', g2'⟩
  · rintro h' tk m' news' F' N' _ ⟨c, rfl, hI, _, h1, h2⟩
    exact done c m' h' tk hI (by rw [em m' c h1 h2]; exact F') N'
end
theorem off_SD : True := by
  w_top off
  trivial
section
variable {w : World} {A : Around} {E : Value → Shared → Prop}
noncomputable def LitS (w : World) (A : Around) (E : Value → Shared → Prop) (T : Sem Value) (x : Str) : Prop := ∀ (s : Shared) (Q : Value → Shared → Prop), (∀ t tk', Q (.str x t) { s with toks := tk' }) → wpAny (model PG w) A T Q E s
inductive LitP (w : World) (A : Around) (E : Value → Shared → Prop) : List (Sem Value × Sem Value) → List (Str × Str) → Prop
  | nil : LitP w A E [] []
  | cons {T U : Sem Value} {x y : Str} {r : List (Sem Value × Sem Value)} {l : List (Str × Str)} : LitS w A E T x → LitS w A E U y → LitP w A E r l → LitP w A E ((T, U) :: r) ((x, y) :: l)
theorem LitP.length {r : List (Sem Value × Sem Value)} {l : List (Str × Str)} (h : LitP w A E r l) : r.length = l.length := by
  induction h with
  | nil => rfl
  | cons _ _ _ ih => exact congrArg Nat.succ ih
theorem LitP.snoc {T U : Sem Value} {x y : Str} (h1 : LitS w A E T x) (h2 : LitS w A E U y) : ∀ {r : List (Sem Value × Sem Value)} {l : List (Str × Str)}, LitP w A E r l → LitP w A E (r ++ [(T, U)]) (l ++ [(x, y)]) := by
  intro r l q
  induction q with
  | nil => exact .cons h1 h2 .nil
  | cons a b p ih => exact .cons a b ih
noncomputable abbrev datS (l : List (Str × Str)) : List (PyData × PyData) := l.map fun p => (PyData.str p.1, PyData.str p.2)
noncomputable def DctS (w : World) (h : Heap) (d : Addr) (l : List (Str × Str)) : Prop := ∃ kvs : List (Str × Value), h.DictOf (strKind PG w) d kvs ∧ PyProof.V.FlatPairs PyData.str kvs (datS l) ∧ kvs.map (·.1) = l.map (·.1)
theorem flat_snoc {K : Type} {enc : K → PyData} {k : K} {v : Value} {d : PyData} (f : PyProof.V.Flat v d) {kvs : List (K × Value)} {D : List (PyData × PyData)} (h : PyProof.V.FlatPairs enc kvs D) : PyProof.V.FlatPairs enc (kvs ++ [(k, v)]) (D ++ [(enc k, d)]) := by
  induction h with
  | nil => exact .cons f .nil
  | cons g _ ih => exact .cons g ih
theorem flat_app {K : Type} {enc : K → PyData} {kvs mre : List (K × Value)} {D D' : List (PyData × PyData)} (h : PyProof.V.FlatPairs enc kvs D) (q : PyProof.V.FlatPairs enc mre D') : PyProof.V.FlatPairs enc (kvs ++ mre) (D ++ D') := by
  induction h with
  | nil => exact q
  | cons f _ ih => exact .cons f ih
theorem stored_fresh {kvs : List (Str × Value)} {x : Str} {v : Value} (h : x ∉ kvs.map (·.1)) : stored kvs x v = kvs ++ [(x, v)] := by
  unfold stored
  rw [if_neg]
  rw [List.any_eq_true]
  rintro ⟨q, hq, e⟩
  exact h (List.mem_map.mpr ⟨q, hq, of_decide_eq_true e⟩)
theorem DctS.len {h : Heap} {d : Addr} {l : List (Str × Str)} (x : DctS w h d l) : ∃ kvs : List (Str × Value), h.DictOf (strKind PG w) d kvs ∧ PyProof.V.FlatPairs PyData.str kvs (datS l) ∧ kvs.map (·.1) = l.map (·.1) ∧ kvs.length = l.length :=
  by obtain ⟨kvs, a, b, c⟩ := x; exact ⟨kvs, a, b, c, by have := congrArg List.length c; simpa using this⟩
theorem set_S {s : Shared} {d : Addr} {l : List (Str × Str)} {x y : Str} {t u : Tok} {Q : Unit → Shared → Prop} (X : DctS w s.heap d l) (hn : x ∉ l.map (·.1)) (hz : l.length ≤ 1000)
    (h : ∀ h' tk', DctS w h' d (l ++ [(x, y)]) → Heap.SameBut d s.heap h' → Q () { s with heap := h', toks := tk' }) : wpAny (model PG w) A (dictSet d (.str x t) (.str y u)) Q E s := by
  refine let_goal ?_
  intro gl_P
  obtain ⟨kvs, a, b, c, e⟩ := X.len
  dsimp only [gl_P]
  clear gl_P
  refine wpAny_dictSet_pairs (knd := strKind PG w) (k := x) (hsz := by rw [sizeLine_eq]; walk_at "mine om") (by simp [PySem.strKind, Value.isStrOf]) a fun h' a' hs => h h' _ ⟨_, a', ?_, ?_⟩ hs
  · rw [stored_fresh (by rw [c]; exact hn), datS, List.map_append]
    exact flat_snoc (PyProof.V.Flat.str y u) b
  · rw [stored_fresh (by rw [c]; exact hn)]; simp [c]
noncomputable def KeepsD (h h' : Heap) (d : Addr) : Prop := @LE.le Nat _ h.objs.size h'.objs.size ∧ ∀ b o, h.get? b = some o → b ≠ d → h'.get? b = some o
theorem KeepsD.same {h h' h'' : Heap} {d : Addr} (x : KeepsD h h' d) (s : Heap.SameBut d h' h'') : KeepsD h h'' d := ⟨Nat.le_trans x.1 (Nat.le_of_eq s.1.symm), fun b o e n => (s.2 b n).trans (x.2 b o e n)⟩
inductive VS : List (Value × Value) → List (Str × Str) → Prop
  | nil : VS [] []
  | cons {x y : Str} {vs : List (Value × Value)} {l : List (Str × Str)} (t u : Tok) : VS vs l → VS ((.str x t, .str y u) :: vs) ((x, y) :: l)
theorem eval_VS {r : List (Sem Value × Sem Value)} {l : List (Str × Str)} {s : Shared} {Q : List (Value × Value) → Shared → Prop} (p : LitP w A E r l) (h : ∀ vs tk', VS vs l → Q vs { s with toks := tk' }) : wpAny (model PG w) A (evalPairs r) Q E s := by
  induction p generalizing s Q with
  | nil => exact evalPairs_nil (h [] s.toks .nil)
  | cons a b _ ih => exact evalPairs_cons (a _ _ fun t tk' => b _ _ fun u tk'' => ih fun vs tk3 hv => h _ tk3 (.cons t u hv))
theorem VS.carries {vs : List (Value × Value)} {l : List (Str × Str)} (h : VS vs l) : ∃ kvs : List (Str × Value), Carries (strKind PG w) vs kvs ∧ PyProof.V.FlatPairs PyData.str kvs (datS l) ∧ kvs.map (·.1) = l.map (·.1) := by
  induction h with
  | nil => exact ⟨[], trivial, .nil, rfl⟩
  | @cons x y _ _ t u _ ih =>
    refine let_goal ?_
    intro gl_P
    obtain ⟨kvs, a, b, c⟩ := ih
    dsimp only [gl_P]
    clear gl_P
    exact ⟨(x, .str y u) :: kvs, ⟨by simp [PySem.strKind, Value.isStrOf], rfl, a⟩, .cons (PyProof.V.Flat.str y u) b, congrArg (List.cons x) c⟩
theorem sub_any {r : List (Sem Value × Sem Value)} {l : List (Str × Str)} {s : Shared} {Q : Addr → Shared → Prop} (hL : LitP w A E r l) (hn : (l.map (·.1)).Nodup) (hz : l.length ≤ 100)
    (h : ∀ h' tk', DctS w h' s.heap.objs.size l → KeepsD s.heap h' s.heap.objs.size → Q s.heap.objs.size { s with heap := h', toks := tk' }) : wpAny (model PG w) A (subDict r) Q E s := by
  have hlen := hL.length
  have h0 : DctS w (s.heap.push { cls := .type "dict", data := .dict #[] }) s.heap.objs.size [] := ⟨[], Heap.DictOf.new s.heap, .nil, rfl⟩
  have k0 : KeepsD s.heap (s.heap.push { cls := .type "dict", data := .dict #[] }) s.heap.objs.size := ⟨by simp [Heap.push], fun b o e _ => Heap.get?_push_of_some _ e⟩
  by_cases h15 : r.length ≤ 15
  · refine wpAny_subDict (knd := strKind PG w) h15 (eval_VS hL fun vs tk' hv => ?_)
    refine let_goal ?_
    intro gl_P
    obtain ⟨kvs, a, b, c⟩ := hv.carries (w := w)
    dsimp only [gl_P]
    clear gl_P
    refine ⟨kvs, a, Heap.DictOf.new s.heap, fun h' hm hs => ?_⟩
    rw [merged_nil_of_nodup kvs (by rw [c]; exact hn)] at hm
    exact h h' _ ⟨kvs, hm, b, c⟩ (k0.same hs)
  · unfold subDict
    refine wpAny_bind (wpAny_alloc ?_)
    refine wpAny_bind (wpAny_holding ?_)
    rw [if_neg h15]
    refine wpAny_bind (wpAny_rule ?_)
    refine wpAny_bind ?_
    refine wpAny_forIn_list _ (fun rest _ s' => ∃ h' tk' done lr, s' = { s with heap := h', toks := tk' } ∧ LitP w A E rest lr ∧ done ++ lr = l ∧ DctS w h' s.heap.objs.size done ∧ KeepsD s.heap h' s.heap.objs.size) _ ?_ ?_ _ _ ⟨_, _, [], l, rfl, hL, rfl, h0, k0⟩
    · rintro ⟨T, U⟩ rest b s' q0
      refine let_goal ?_
      intro gl_P
      obtain ⟨h', tk', done, lr, eq0, hp, hd, hD, hK⟩ := q0
      dsimp only [gl_P]
      clear gl_P
      subst eq0
      cases hp with
      | @cons _ _ x y _ l2 a b p =>
        have hnx : x ∉ done.map (·.1) := by
          rw [← hd, List.map_append, List.nodup_append] at hn
          exact fun hm => hn.2.2 x hm x (by first | walk_at "mine mem1" | simp) rfl
        have hdl : done.length ≤ 100 := by rw [← hd] at hz; simp at hz; walk_at "mine om"
        refine wpAny_bind (a _ _ fun t tk2 => ?_)
        refine wpAny_bind (wpAny_holding (b _ _ fun u tk3 => ?_))
        refine wpAny_bind (wpAny_holding (set_S hD hnx (by walk_at "mine om") fun h2 tk4 hD2 hs2 => ?_))
        exact wpAny_pure ⟨h2, tk4, done ++ [(x, y)], l2, rfl, p, by rw [← hd]; simp, hD2, hK.same hs2⟩
    · rintro b s' q0
      refine let_goal ?_
      intro gl_P
      obtain ⟨h', tk', done, lr, eq0, hp, hd, hD, hK⟩ := q0
      dsimp only [gl_P]
      clear gl_P
      subst eq0
      cases hp
      rw [List.append_nil] at hd
      subst hd
      exact wpAny_pure (wpAny_pure (h h' tk' hD hK))
theorem put_new {s : Shared} {d : Addr} {kvs : List (Str × Value)} {k : Str} {key v : Value} {Q : Unit → Shared → Prop} (hkey : (strKind PG w).is k key = true) (hm : s.heap.DictOf (strKind PG w) d kvs) (hnot : k ∉ kvs.map (·.1)) (hz : kvs.length ≤ 1000)
    (hQ : ∀ h', h'.DictOf (strKind PG w) d (kvs ++ [(k, v)]) → Heap.SameBut d s.heap h' → Q () { s with heap := h' }) : wpAny (model PG w) A (dictPut d ((strKind PG w).hash k) key v) Q E s := by
  refine let_goal ?_
  intro gl_P
  obtain ⟨o, es, ep, ho, hc, hd, hk, hp, hn⟩ := hm
  dsimp only [gl_P]
  clear gl_P
  have hl := hp.length
  have hidx : (es.findIdx? fun e => (strKind PG w).is k e.key) = kvs.findIdx? fun kv => decide (kv.1 = k) := by
    rw [← hp.findIdx k]; obtain ⟨l⟩ := es; simp
  have hnone : (kvs.findIdx? fun kv => decide (kv.1 = k)) = none := by
    rw [List.findIdx?_eq_none_iff]
    intro q hq
    simp only [decide_eq_false_iff_not]
    exact fun e => hnot (List.mem_map.mpr ⟨q, hq, e⟩)
  unfold dictPut
  refine wpAny_bind (wpAny_dictFind_of hkey ho hd hk ?_)
  rw [hidx, hnone]
  refine wpAny_updateDictKeys (hz := by have : es.toList.length = es.size := by simp
                                        rw [sizeLine_eq]; walk_at "mine om") ho hd (hQ _ ⟨_, _, ep + 1, Heap.get?_update_self _ ho (Obj.isFreed_of_dict (Obj.data_mapDictKeys hd _)),
      hc.mapDictKeys _, Obj.data_mapDictKeys hd _, hk.push hkey _, ?_, ?_⟩ (Heap.SameBut.update ..))
  · have := hp.append hkey ((strKind PG w).hash k) v
    obtain ⟨l⟩ := es
    simpa using this
  · rw [List.map_append, List.nodup_append]
    refine ⟨hn, by simp, fun a ha b hb => ?_⟩
    simp only [List.map_cons, List.map_nil, List.mem_singleton] at hb
    subst hb
    exact fun e => hnot (e ▸ ha)
theorem merge_S {s : Shared} {d o : Addr} {l l2 : List (Str × Str)} {Q : Unit → Shared → Prop} (hdo : d ≠ o) (hoS : (o == sysModules) = false) (hd : DctS w s.heap d l) (ho : DctS w s.heap o l2) (hne : l ≠ []) (hn : ((l ++ l2).map (·.1)).Nodup) (hz : (l ++ l2).length ≤ 100)
    (h : ∀ h', DctS w h' d (l ++ l2) → Heap.SameBut d s.heap h' → Q () { s with heap := h' }) : wpAny (model PG w) A (mergeMapping d (.ref o) false) Q E s := by
  refine let_goal ?_
  intro gl_P
  obtain ⟨kvs, a1, a2, a3, a4⟩ := hd.len
  obtain ⟨mre, b1, b2, b3, b4⟩ := ho.len
  obtain ⟨od, esd, epd, hod, hcd, hdd, hkd, hpd, hnd⟩ := id a1
  obtain ⟨oo, eso, epo, hoo, hco, hdo', hko, hpo, hno⟩ := id b1
  dsimp only [gl_P]
  clear gl_P
  have hty : s.TypeIs (.ref o) "dict" := b1.typeIs
  have hlo : mre.length = eso.size := by rw [← hpo.length]; simp
  have hld : kvs.length = esd.size := by rw [← hpd.length]; simp
  have hnn : ((kvs ++ mre).map (·.1)).Nodup := by rw [List.map_append, a3, b3, ← List.map_append]; exact hn
  unfold mergeMapping
  refine wpAny_bind (wpAny_bind (wpAny_typeOf hty (wpAny_of_eq (show isSubtype (.type "dict") (.type "dict") = pure true by rw [isSubtype_type]; kernel_rfl) ?_)))
  rw [if_pos rfl]
  refine wpAny_bind (wpAny_specialOf hty (show typeLookup (.type "dict") (Str.ofString "__iter__") = pure (some (.builtin "dict.__iter__")) by rw [typeLookup_type, builtinLookup_eq_fast]; kernel_rfl) ?_)
  refine wpAny_bind (wpAny_pure ?_)
  have hem : esd.isEmpty = false := by
    rw [Array.isEmpty_eq_false_iff]
    intro e
    have : kvs.length = 0 := by rw [hld, e]; rfl
    rw [a4] at this
    exact hne (List.length_eq_zero_iff.mp this)
  (try dsimp only)
  rw [show (some (Value.builtin "dict.__iter__") == some (Value.builtin "dict.__iter__")) = true from beq_self_eq_true _]
  (try dsimp only)
  rw [if_neg (by rw [hoS]; decide)]
  refine wpAny_bind (wpAny_dictEntries hod hdd ?_)
  rw [if_neg (by rw [hem]; decide)]
  refine wpAny_bind (wpAny_dictEntries hoo hdo' ?_)
  refine wpAny_bind (wpAny_dictEpoch hoo hdo' ?_)
  refine wpAny_bind ?_
  rw [List.range_eq_range']
  refine wpAny_forIn_list _ (fun rest _ s' => ∃ h' i, s' = { s with heap := h' } ∧ rest = List.range' i (eso.size - i) ∧ i ≤ eso.size ∧ h'.DictOf (PySem.strKind PG w) d (kvs ++ mre.take i) ∧ h'.get? o = some oo ∧ Heap.SameBut d s.heap h') _ ?_ ?_ _ _ ⟨s.heap, 0, rfl, by simp, Nat.zero_le _, by simpa using a1, hoo, Heap.SameBut.refl _ _⟩
  · rintro x rest b s' q0
    refine let_goal ?_
    intro gl_P
    obtain ⟨h', i, eq0, hr, hi, hd', hoo', hs'⟩ := q0
    dsimp only [gl_P]
    clear gl_P
    subst eq0
    obtain ⟨hlt, rfl, hrest⟩ := range_next hr
    refine wpAny_bind (wpAny_dictEntries hoo' hdo' ?_)
    rw [Array.getElem?_eq_getElem hlt]
    refine let_goal ?_
    intro gl_P
    obtain ⟨⟨k, v⟩, hkv⟩ : ∃ kv, mre[x]? = some kv := ⟨mre[x]'(by rw [hlo]; exact hlt), List.getElem?_eq_getElem _⟩
    obtain ⟨hkey, hval⟩ := hpo.get? (e := eso[x]) (by first | walk_at "mine mem1" | simp [hlt]) hkv
    obtain ⟨k', hkey', hhash⟩ := hko eso[x] (Array.getElem_mem hlt)
    dsimp only [gl_P]
    clear gl_P
    obtain rfl : k' = k := (PySem.strKind PG w).inj _ _ _ hkey' hkey
    have hx : x < mre.length := by walk_at "mine om"
    have hfr : k' ∉ (kvs ++ mre.take x).map (·.1) := by
      have e1 : mre = mre.take x ++ (k', v) :: mre.drop (x + 1) := by
        have := (List.take_append_drop x mre).symm
        rw [List.drop_eq_getElem_cons hx] at this
        rw [List.getElem?_eq_getElem hx] at hkv
        rw [Option.some.inj hkv] at this
        exact this
      rw [e1, ← List.append_assoc, List.map_append, List.nodup_append] at hnn
      exact fun hm => hnn.2.2 k' hm k' (by first | walk_at "mine mem1" | simp) rfl
    have hzz : (kvs ++ mre.take x).length ≤ 1000 := by
      rw [List.length_append] at hz ⊢
      rw [← a4, ← b4] at hz
      exact Nat.le_trans (Nat.add_le_add_left (List.length_take_le' x mre) _) (Nat.le_trans hz (by decide))
    show wpAny _ _ (holding [eso[x].key, eso[x].val] (dictPut d eso[x].hash eso[x].key eso[x].val) >>= _) _ _ _
    rw [hhash]
    refine wpAny_bind (wpAny_holding (put_new hkey hd' hfr hzz fun h'' hd'' hs'' => ?_))
    have hoo'' : h''.get? o = some oo := (hs''.2 o (Ne.symm hdo)).trans hoo'
    refine wpAny_bind (wpAny_dictEpoch hoo'' hdo' ?_)
    rw [if_neg (by first | walk_at "mine mem1" | simp)]
    refine wpAny_pure ⟨h'', x + 1, rfl, hrest, hlt, ?_, hoo'', hs'.trans hs''⟩
    rw [List.take_add_one, hkv]
    rw [hval] at hd''
    simpa using hd''
  · rintro b s' q0
    refine let_goal ?_
    intro gl_P
    obtain ⟨h', i, eq0, hr, hi, hd', hoo', hs'⟩ := q0
    dsimp only [gl_P]
    clear gl_P
    subst eq0
    have hin : i = eso.size := by
      rcases Nat.lt_or_ge i eso.size with q | q
      · have e : eso.size - i = (eso.size - (i + 1)) + 1 := by walk_at "mine om"
        rw [e, List.range'_succ] at hr; exact nomatch hr
      · exact Nat.le_antisymm hi q
    rw [hin, ← hlo, List.take_length] at hd'
    refine wpAny_pure (h h' ⟨_, hd', ?_, by rw [List.map_append, a3, b3, ← List.map_append]⟩ hs')
    rw [datS, List.map_append]
    exact flat_app a2 b2
end
theorem off_SD2 : True := by
  w_top off
  trivial
section
variable {w : World} {A : Around} {E : Value → Shared → Prop}
noncomputable def DispI (w : World) (A : Around) (E : Value → Shared → Prop) (s : Shared) (l : List (Str × Str)) (rest : List (Option (Sem Value) × Sem Value)) (b : Option Addr × List (Sem Value × Sem Value)) (s' : Shared) : Prop :=
  ∃ h' tk' done lrun lrest rp, s' = { s with heap := h', toks := tk' } ∧ rest = rp.map (fun p => (some p.1, p.2)) ∧ LitP w A E rp lrest ∧ LitP w A E b.2 lrun ∧ done ++ lrun ++ lrest = l ∧ b.2.length < 17 ∧ (∀ p o, s.heap.get? p = some o → h'.get? p = some o) ∧ @LE.le Nat _ s.heap.objs.size h'.objs.size ∧
    match b.1 with
    | none => done = []
    | some d => done ≠ [] ∧ DctS w h' d done ∧ s.heap.get? d = none ∧ s.heap.objs.size ≤ d
theorem flush_S {s : Shared} {h' : Heap} {tk' : Nat} {mn : Option Addr} {run : List (Sem Value × Sem Value)} {done lrun : List (Str × Str)} {Q : Option Addr → Shared → Prop} (hq : LitP w A E run lrun) (hne : lrun ≠ []) (hn : ((done ++ lrun).map (·.1)).Nodup) (hz : (done ++ lrun).length ≤ 100) (low : @LT.lt Nat _ sysModules s.heap.objs.size)
    (hk : ∀ p o, s.heap.get? p = some o → h'.get? p = some o) (hm : match (generalizing := false) mn with | none => done = [] | some d => done ≠ [] ∧ DctS w h' d done ∧ s.heap.get? d = none ∧ s.heap.objs.size ≤ d)
    (hsz : s.heap.objs.size ≤ h'.objs.size)
    (h : ∀ d h'' tk'', DctS w h'' d (done ++ lrun) → (∀ p o, s.heap.get? p = some o → h''.get? p = some o) → s.heap.get? d = none → s.heap.objs.size ≤ d → @LE.le Nat _ s.heap.objs.size h''.objs.size → Q (some d) { s with heap := h'', toks := tk'' }) :
    wpAny (model PG w) A (if run.isEmpty = true then pure mn else match (generalizing := false) mn with
      | none => do
        let d ← subDict run
        pure (some d)
      | some d => do
        let sub ← holding [Value.ref d] (subDict run)
        (holding [Value.ref d, Value.ref sub] (mergeMapping d (Value.ref sub) false)).onRaise fun x => do
          let _ ← holding [Value.ref d, x] (runValue (Code.builtin "proto.let_go" { }))
          pure ()
        pure (some d)) Q E { s with heap := h', toks := tk' } := by
  have hlen := hq.length
  have hre : run.isEmpty = false := by
    cases run with
    | nil => exact absurd (List.length_eq_zero_iff.mp hlen.symm) hne
    | cons a b => rfl
  rw [if_neg (by rw [hre]; decide)]
  have hnr : (lrun.map (·.1)).Nodup := by rw [List.map_append, List.nodup_append] at hn; exact hn.2.1
  have hzr : lrun.length ≤ 100 := by simp at hz; walk_at "mine om"
  have hnew : s.heap.get? h'.objs.size = none := by
    cases q : s.heap.get? h'.objs.size with
    | none => rfl
    | some o => exact absurd (Heap.lt_size q) (Nat.not_lt.mpr hsz)
  cases mn with
  | none =>
    dsimp only at hm ⊢
    subst hm
    refine wpAny_bind (sub_any hq hnr hzr fun h2 tk2 D2 k2 => wpAny_pure ?_)
    refine h _ h2 tk2 D2 (fun p o e => k2.2 p o (hk p o e) fun e' => ?_) hnew hsz (Nat.le_trans hsz k2.1)
    rw [e'] at e
    exact absurd (hnew.symm.trans e) (by first | walk_at "mine mem1" | simp)
  | some d =>
    refine let_goal ?_
    intro gl_P
    obtain ⟨m1, m2, m3, m4⟩ := hm
    dsimp only [gl_P]
    clear gl_P
    (try dsimp only)
    refine let_goal ?_
    intro gl_P
    obtain ⟨kvs, ⟨od, _, _, hod, _⟩, _⟩ := id m2
    dsimp only [gl_P]
    clear gl_P
    have hdlt := Heap.lt_size hod
    refine wpAny_bind (wpAny_holding (sub_any hq hnr hzr fun h2 tk2 D2 k2 => ?_))
    dsimp only at D2 k2 ⊢
    have hd2 : DctS w h2 d done := by
      refine let_goal ?_
      intro gl_P
      obtain ⟨kvs, ⟨o, es, ep, ho, r⟩, b, c⟩ := m2
      dsimp only [gl_P]
      clear gl_P
      exact ⟨kvs, ⟨o, es, ep, k2.2 _ _ ho (Nat.ne_of_lt hdlt), r⟩, b, c⟩
    have hlow : (h'.objs.size == sysModules) = false := beq_eq_false_iff_ne.mpr (Nat.ne_of_gt (Nat.lt_of_lt_of_le low hsz))
    refine wpAny_bind (wpAny_onRaise (wpAny_holding (merge_S (Nat.ne_of_lt hdlt) hlow hd2 D2 m1 hn hz fun h3 D3 hs3 => wpAny_pure ?_)))
    refine h d h3 tk2 D3 (fun p o e => ?_) m3 m4 (Nat.le_trans hsz (Nat.le_trans k2.1 (Nat.le_of_eq hs3.1.symm)))
    have hpd : p ≠ d := fun e' => by rw [e', m3] at e; cases e
    have hps : p ≠ h'.objs.size := fun e' => by rw [e', hnew] at e; cases e
    exact (hs3.2 p hpd).trans (k2.2 p o (hk p o e) hps)
theorem disp_S {pairs : List (Sem Value × Sem Value)} {l : List (Str × Str)} {s : Shared} {Q : Value → Shared → Prop} (hL : LitP w A E pairs l) (hn : (l.map (·.1)).Nodup) (hne : l ≠ []) (hz : l.length ≤ 100) (low : @LT.lt Nat _ sysModules s.heap.objs.size)
    (h : ∀ d h' tk', DctS w h' d l → (∀ p o, s.heap.get? p = some o → h'.get? p = some o) → s.heap.get? d = none → (d == sysModules) = false → Q (.ref d) { s with heap := h', toks := tk' }) :
    wpAny (model PG w) A (dictDisplay (pairs.map fun p => (some p.1, p.2))) Q E s := by
  unfold dictDisplay
  (try dsimp only)
  refine wpAny_bind ?_
  refine wpAny_forIn_list _ (DispI w A E s l) _ ?_ ?_ _ _ ⟨s.heap, s.toks, [], [], l, pairs, rfl, rfl, hL, .nil, by simp, by decide, fun _ _ e => e, Nat.le_refl _, rfl⟩
  · rintro x rest ⟨mn, run⟩ s' q0
    refine let_goal ?_
    intro gl_P
    obtain ⟨h', tk', done, lrun, lrest, rp, eq0, hr, hp, hq, hd, h17, hk, hs, hm⟩ := q0
    dsimp only [gl_P]
    clear gl_P
    subst eq0
    cases hp with
    | nil => cases hr
    | @cons T U x0 y0 rp' l' a b p =>
      simp only [List.map_cons, List.cons.injEq] at hr
      obtain ⟨rfl, rfl⟩ := hr
      dsimp only at hq h17 hm ⊢
      have hq' := hq.snoc a b
      have hd' : done ++ (lrun ++ [(x0, y0)]) ++ l' = l := by rw [← hd]; simp
      by_cases e17 : (run ++ [(T, U)]).length = 17
      · rw [if_pos (by simpa using e17)]
        refine wpAny_bind (flush_S hq' (by first | walk_at "mine mem1" | simp) ?_ ?_ low hk hm hs fun d h2 tk2 D2 k2 f2 s2 z2 => wpAny_pure ?_)
        · rw [← hd', List.map_append, List.nodup_append] at hn; exact hn.1
        · rw [← hd'] at hz; simp at hz ⊢; walk_at "mine om"
        · exact ⟨h2, tk2, done ++ (lrun ++ [(x0, y0)]), [], l', rp', rfl, rfl, p, .nil, by rw [← hd']; simp, Nat.zero_lt_succ _, k2, z2, by simp, D2, f2, s2⟩
      · rw [if_neg (by simpa using e17)]
        have e1 : run.length + 1 ≠ 17 := by simpa using e17
        exact wpAny_pure ⟨h', tk', done, lrun ++ [(x0, y0)], l', rp', rfl, rfl, p, hq', hd', by simp; walk_at "mine om", hk, hs, hm⟩
  · rintro ⟨mn, run⟩ s' q0
    refine let_goal ?_
    intro gl_P
    obtain ⟨h', tk', done, lrun, lrest, rp, eq0, hr, hp, hq, hd, h17, hk, hs, hm⟩ := q0
    dsimp only [gl_P]
    clear gl_P
    subst eq0
    have hrp : rp = [] := by simpa using hr.symm
    subst hrp
    cases hp
    rw [List.append_nil] at hd
    dsimp only at hq h17 hm ⊢
    by_cases hlr : lrun = []
    · subst hlr
      cases hq
      rw [List.append_nil] at hd
      subst hd
      rw [if_pos (show ([] : List (Sem Value × Sem Value)).isEmpty = true from rfl)]
      cases mn with
      | none => exact absurd hm hne
      | some d =>
        refine let_goal ?_
        intro gl_P
        obtain ⟨m1, m2, m3, m4⟩ := hm
        dsimp only [gl_P]
        clear gl_P
        exact wpAny_bind (wpAny_pure (wpAny_pure (h d h' tk' m2 hk m3 (beq_eq_false_iff_ne.mpr (Nat.ne_of_gt (Nat.lt_of_lt_of_le low m4))))))
    · refine wpAny_bind (flush_S hq hlr (by rw [hd]; exact hn) (by rw [hd]; exact hz) low hk hm hs fun d h2 tk2 D2 k2 f2 s2 z2 => ?_)
      rw [hd] at D2
      exact wpAny_pure (h d h2 tk2 D2 k2 f2 (beq_eq_false_iff_ne.mpr (Nat.ne_of_gt (Nat.lt_of_lt_of_le low s2))))
end
theorem off_DSP : True := by
  w_top off
  trivial
noncomputable def tupEls : PySem.Expr → Option (List PySem.Expr)
  | .Tuple es _ _ => some es
  | _ => none
noncomputable def tupsOf : List PySem.Expr → Option (List (List PyData))
  | [] => some []
  | e :: r => ((tupEls e).bind tupLitsOf).bind fun d => (tupsOf r).bind fun ds => bif d.length.ble 100 then some (d :: ds) else none
inductive TupsIn (own : List (Addr × Obj)) : List Value → List (List PyData) → Prop
  | nil : TupsIn own [] []
  | cons {q : Addr} {vs0 : List Value} {d : List PyData} {vs : List Value} {ds : List (List PyData)} : (q, ({ cls := .type "tuple", data := .seq vs0.toArray } : Obj)) ∈ own → DataAre vs0 d → TupsIn own vs ds → TupsIn own (.ref q :: vs) (d :: ds)
theorem TupsIn.sub {own own' : List (Addr × Obj)} (h : ∀ p ∈ own, p ∈ own') {vs : List Value} {ds : List (List PyData)} (t : TupsIn own vs ds) : TupsIn own' vs ds := by
  induction t with
  | nil => exact .nil
  | cons m d _ ih => exact .cons (h _ m) d ih
theorem none_some {α : Type} {x : α} {C : Prop} (h : none = some x) : C := nomatch h
theorem tupEls_eq {e : PySem.Expr} {es : List PySem.Expr} (h : tupEls e = some es) : ∃ k p, e = .Tuple es k p := by
  cases e
  case Tuple es' k p => exact ⟨k, p, congrArg (PySem.Expr.Tuple · k p) (Option.some.inj h)⟩
  all_goals exact none_some h
theorem tupsOf_cons {e : PySem.Expr} {r : List PySem.Expr} {dss : List (List PyData)} (h : tupsOf (e :: r) = some dss) : ∃ es k p d ds, e = .Tuple es k p ∧ tupLitsOf es = some d ∧ tupsOf r = some ds ∧ d.length ≤ 100 ∧ dss = d :: ds := by
  refine let_goal ?_
  intro gl_P
  obtain ⟨d, h1, h2⟩ := Option.bind_eq_some_iff.mp h
  obtain ⟨es, h3, h4⟩ := Option.bind_eq_some_iff.mp h1
  obtain ⟨ds, h5, h6⟩ := Option.bind_eq_some_iff.mp h2
  dsimp only [gl_P]
  clear gl_P
  obtain ⟨k, p, rfl⟩ := tupEls_eq h3
  cases hb : d.length.ble 100 with
  | false => rw [hb] at h6; cases h6
  | true => rw [hb] at h6; cases h6; exact ⟨es, k, p, d, ds, rfl, h4, h5, Nat.le_of_ble_eq_true hb, rfl⟩
theorem spliced_tups {w : World} {A : Around} {E : Value → Shared → Prop} {env : Env} {h₀ : Heap} {L : Addr} {m : Str → Option Value} {pos : Pos}  (elts : List PySem.Expr) (dss : List (List PyData)) (s : Shared) (news : List (Addr × Obj)) (Q : List Value → Shared → Prop) (hl : tupsOf elts = some dss)
    (F : Fr h₀ L s.heap m) (N : News h₀ L s.heap news)
    (h : ∀ vs own h' tk, Fr h₀ L h' m → News h₀ L h' (own ++ news) → TupsIn own vs dss → (∀ p ∈ own, ∀ q ∈ news, @LT.lt Nat _ q.1 p.1) → Q vs { s with heap := h', toks := tk }) : wpAny (model PG w) A (spliced (backTo pos (starEach elts env))) Q E s := by
  induction elts generalizing dss s news Q with
  | nil =>
    cases hl
    exact args_nil (h [] [] s.heap s.toks F N .nil (List.forall_mem_nil _))
  | cons e r ih =>
    obtain ⟨es, k, p, d, ds, rfl, hd, hr, hz, rfl⟩ := tupsOf_cons hl
    refine args_cons (Tuple_ (spliced_lits es d s _ hd fun vs tk hvs => ?_)) rfl
    refine kup_newTuple (s := { s with toks := tk }) F N (fun D h' F' N' lt => ?_) (by rw [dataAre_len hvs, sizeLine_eq]; walk_at "mine om")
    refine ih ds _ _ _ hr F' N' fun ws own h'' tk' F'' N'' T lo => ?_
    refine h (.ref D :: ws) (own ++ [(D, { cls := .type "tuple", data := .seq vs.toArray })]) h'' tk' F'' ?_ (.cons (List.mem_append.mpr (.inr (.head _))) hvs (T.sub fun p hp => List.mem_append.mpr (.inl hp))) ?_
    · rw [List.append_assoc]; exact N''
    · intro p hp q hq
      rcases List.mem_append.mp hp with hp | hp
      · exact lo p hp q (.tail _ hq)
      · cases List.mem_singleton.mp hp
        exact lt q hq
theorem datum_str (g : Heap) {v : Value} {x : Str} (h : IsDatum v (.str x)) : ∃ t, v = .str x t := by
  have := h g
  cases this
  exact ⟨_, rfl⟩
theorem datum_int (g : Heap) {v : Value} {i : Int} (h : IsDatum v (.int i)) : ∃ t, v = .int i t := by
  have := h g
  cases this
  exact ⟨_, rfl⟩
theorem pair_SI (g : Heap) {vs : List Value} {x : Str} {i : Int} (h : DataAre vs [.str x, .int i]) : ∃ t1 t2, vs = [.str x t1, .int i t2] := by
  cases h with
  | cons a r =>
    cases r with
    | cons b r =>
      cases r
      obtain ⟨t1, rfl⟩ := datum_str g a
      obtain ⟨t2, rfl⟩ := datum_int g b
      exact ⟨t1, t2, rfl⟩
theorem pair_SS (g : Heap) {vs : List Value} {x y : Str} (h : DataAre vs [.str x, .str y]) : ∃ t1 t2, vs = [.str x t1, .str y t2] := by
  cases h with
  | cons a r =>
    cases r with
    | cons b r =>
      cases r
      obtain ⟨t1, rfl⟩ := datum_str g a
      obtain ⟨t2, rfl⟩ := datum_str g b
      exact ⟨t1, t2, rfl⟩
section
theorem words_J2 : True := by
  k_with "J2 size_fits" => first | ((with_reducible show Array.size (List.toArray _) ≤ _); k_dflt (exact Nat.le_of_ble_eq_true rfl)) | ((with_reducible show List.length (_ :: _) ≤ _); k_dflt (exact Nat.le_of_ble_eq_true rfl)) | ((with_reducible show Str.length _ + Str.length _ ≤ _); (with_reducible refine om_le (Nat.add_le_add ?a_J2_1 ?b_J2_1) ?c_J2_1); (case a_J2_1 => walk_at "mine len"); (case b_J2_1 => walk_at "mine len"); (case c_J2_1 => k_dflt (exact rfl))) | walk_at "mine cheap"
  k_with "J2 leave1" => first | with_reducible refine KExecs.next (by assumption) ?_ | with_reducible refine KExecs.ret (by assumption) ?_ | with_reducible refine KExecs.brk (by assumption) ?_ | with_reducible refine KExecs.cont (by assumption) ?_ | with_reducible refine KEnds.ret (by assumption) ?_ | with_reducible refine KEnds.next (by assumption) ?_ | with_reducible refine KFlies.go (by assumption) ?_ | with_reducible exact AnyV.go (by assumption) | ((with_reducible refine Post2.go (by assumption) ?_); (try dsimp only))
  k_with "J2 ktr_room" => first | exact room2 (by assumption) rfl | exact room1 (by assumption) rfl | exact room3 (by assumption) rfl | exact room0 (by assumption)
  k_with "J2 ktr_units" => first | exact room2 (by assumption) rfl | exact room1 (by assumption) rfl | exact room3 (by assumption) rfl | exact room0 (by assumption)
  k_with "J2 mine enter" => (refine wpAny_call ?_; k_dflt (refine' enterG (by assumption) ?k1_J2_6 ?k2_J2_6 ?k3_J2_6 ?k4_J2_6 ?k5_J2_6 ?kA_J2_6 ?kF_J2_6 ?kK_J2_6 ?k6_J2_6 ?k7_J2_6 ?k8_J2_6 ?k9_J2_6 ?kB_J2_6 ?_ ?c2_J2_6 ?c3_J2_6 ?c4_J2_6 ?c5_J2_6; (case kA_J2_6 => exact rfl); (case kF_J2_6 => exact rfl); (case kK_J2_6 => assumption); (case k1_J2_6 => k_asm); (case k2_J2_6 => k_asm); (case k3_J2_6 => k_asm); (case k4_J2_6 => k_asm); (case k5_J2_6 => k_asm); (case k6_J2_6 => k_is); (case k7_J2_6 => k_is); (case k8_J2_6 => ktr_room); (case k9_J2_6 => first | exact BindsTo.of_eq rfl | exact binds_K (by k_in) rfl (by k_is) rfl rfl rfl); (case c5_J2_6 => decide); (case kB_J2_6 => exact locs rfl); (case c2_J2_6 => exact rfl); (case c3_J2_6 => exact rfl); (case c4_J2_6 => exact rfl); k_whole; intro g_w L_w h_w HG_w FG_w m9_w F_w N_w B_w X_w T_w Qg_w Eg_w hHg_w hQg_w env9_w A9_w hEg_w hPg_w; (try k_fold)))
  k_with "J2 mine len" => with_reducible first | (refine len_app ?_ ?_; (walk_at "mine len"); walk_at "mine len") | exact Nat.le_of_eq (by assumption) | assumption
  k_with "J2 le" => first | ((with_reducible show Array.size (List.toArray _) ≤ _); k_dflt (exact Nat.le_of_ble_eq_true rfl)) | ((with_reducible show List.length (_ :: _) ≤ _); k_dflt (exact Nat.le_of_ble_eq_true rfl)) | walk_at "mine cheap"
  k_with "J2 lt" => walk_at "mine cheap"
  k_with "J2 execs cons" => first | (with_reducible refine execs_oneT (by assumption) fun tke_w => ?_) | (with_reducible refine execs_consT (by assumption) fun tke_w Qe_w hHe_w hQe_w => ?_) | with_reducible refine execs_oneV (by assumption) ?_ | (with_reducible refine execs_consV (by assumption) fun Qe_w hHe_w hQe_w => ?_) | (with_reducible refine gen_postH fun Qe_w hHe_w hQe_w => ?_)
  k_with "J2 exec For Name Name cons nil" => refine Hold.in ?_
  k_with "J2 exec For Name Call cons nil" => refine Hold.in ?_
  k_with "J2 eval Call Name" => first | (k_here; (with_reducible show wpAny _ _ (eval (PySem.Expr.Call (PySem.Expr.Name _ _) (_ :: _) [] _) _) _ _ _); k_dflt (refine' call_glob ?k1_J2_13 ?k2_J2_13 ?k3_J2_13 ?k4_J2_13 ?k5_J2_13 ?_ (by exact rfl) (by exact rfl) (by decide) (by exact rfl) (by exact rfl); (case k1_J2_13 => k_asm); (case k2_J2_13 => k_asm); (case k3_J2_13 => k_asm); (case k4_J2_13 => k_is); (case k5_J2_13 => k_is))) | refine Call_ ?_
  k_with "J2 eval Call Name" => (k_here; first | ((with_reducible show wpAny _ _ (eval (PySem.Expr.Call (PySem.Expr.Name _ _) [PySem.Expr.Name _ _] [] _) _) _ _ _); k_dflt (refine' call_n1 ?k1_J2_14 ?k2_J2_14 ?k3_J2_14 ?k4_J2_14 ?k5_J2_14 ?h1_J2_14 ?_ (by exact rfl) (by exact rfl) (by decide) (by exact rfl) (by decide); (case k1_J2_14 => k_asm); (case k2_J2_14 => k_asm); (case k3_J2_14 => k_asm); (case k4_J2_14 => k_is); (case k5_J2_14 => k_is); (case h1_J2_14 => exact rfl))) | ((with_reducible show wpAny _ _ (eval (PySem.Expr.Call (PySem.Expr.Name _ _) [PySem.Expr.Name _ _, PySem.Expr.Name _ _] [] _) _) _ _ _); k_dflt (refine' call_n2 ?k1_J2_14 ?k2_J2_14 ?k3_J2_14 ?k4_J2_14 ?k5_J2_14 ?h1_J2_14 ?h2_J2_14 ?_ (by exact rfl) (by exact rfl) (by decide) (by exact rfl) (by decide) (by exact rfl) (by decide); (case k1_J2_14 => k_asm); (case k2_J2_14 => k_asm); (case k3_J2_14 => k_asm); (case k4_J2_14 => k_is); (case k5_J2_14 => k_is); (case h1_J2_14 => exact rfl); (case h2_J2_14 => exact rfl))) | ((with_reducible show wpAny _ _ (eval (PySem.Expr.Call (PySem.Expr.Name _ _) [PySem.Expr.Name _ _, PySem.Expr.Name _ _, PySem.Expr.Name _ _] [] _) _) _ _ _); k_dflt (refine' call_n3 ?k1_J2_14 ?k2_J2_14 ?k3_J2_14 ?k4_J2_14 ?k5_J2_14 ?h1_J2_14 ?h2_J2_14 ?h3_J2_14 ?_ (by exact rfl) (by exact rfl) (by decide) (by exact rfl) (by decide) (by exact rfl) (by decide) (by exact rfl) (by decide); (case k1_J2_14 => k_asm); (case k2_J2_14 => k_asm); (case k3_J2_14 => k_asm); (case k4_J2_14 => k_is); (case k5_J2_14 => k_is); (case h1_J2_14 => exact rfl); (case h2_J2_14 => exact rfl); (case h3_J2_14 => exact rfl))))
  k_with "J2 eval Call Name" => (k_here; (first | (with_reducible show wpAny _ _ (eval (PySem.Expr.Call (PySem.Expr.Name (Str.ofString "len") _) [PySem.Expr.Name _ _] [] _) _) _ _ _) | (with_reducible show wpAny _ _ (eval (PySem.Expr.Call (PySem.Expr.Name (Str.ofString "ord") _) [PySem.Expr.Name _ _] [] _) _) _ _ _)); k_dflt (refine' call_b1 ?k1_J2_15 ?k2_J2_15 ?k3_J2_15 ?k4_J2_15 ?k5_J2_15 ?k6_J2_15 ?k7_J2_15 ?_ (by exact rfl) (by exact rfl) (by decide) (by exact rfl) (by decide); (case k1_J2_15 => k_asm); (case k2_J2_15 => k_asm); (case k3_J2_15 => k_asm); (case k4_J2_15 => k_is); (case k5_J2_15 => exact rfl); (case k6_J2_15 => decide); (case k7_J2_15 => exact rfl)))
  k_with "J2 spliced" => (k_here; (with_reducible show wpAny _ _ (spliced (backTo _ (starEach (PySem.Expr.Name _ _ :: _) _))) _ _ _); k_dflt (refine' args_name ?k1_J2_16 ?k2_J2_16 ?_ (by exact rfl) (by exact rfl) (by decide); (case k1_J2_16 => k_asm); (case k2_J2_16 => exact rfl)))
  k_with "J2 eval Call Attribute" => first | (k_here; (with_reducible show wpAny _ _ (eval (PySem.Expr.Call (PySem.Expr.Attribute _ _ _) _ (_ :: _) _) _) _ _ _); refine methodCall_KW ?_) | refine MethodCall_ ?_
  k_with "J2 mine kd" => ktr_room
  k_with "J2 mine ku" => ktr_units
  k_with "J2 pyIter str" => refine Hold.in ?_
  k_with "J2 pyIter ref" => refine Hold.in ?_
  k_with "J2 mine for" => (unfold Hold; (rename Fr _ _ _ _ => lF_w); (with_unfolding_all refine' For_invVF lF_w ?k1_J2_22 ?k2_J2_22 ?_; (case k1_J2_22 => exact rfl); (case k2_J2_22 => exact rfl)); k_steps)
  k_with "J2 mine in" => first | exact fun _ hp_w => hp_w | (intro p_w hp_w; simpa using hp_w) | kst_in
  k_with "J2 mine same" => first | (intro z_w h1_w h2_w h3_w; (repeat (refine Eq.trans (if_neg (by first | exact h1_w | exact ne_cont h3_w (by walk_at "mine mem1") | exact h2_w _ (.head _) | exact h2_w _ (.tail _ (.head _)) | exact h2_w _ (.tail _ (.tail _ (.head _))) | exact h2_w _ (.tail _ (.tail _ (.tail _ (.head _)))) | exact Bool.eq_false_iff.mp h3_w)) ?_)); exact rfl) | (intro z_w h1_w h2_w h3_w; (try simp only [List.contains_cons, List.contains_nil, Bool.or_false, Bool.or_eq_false_iff, beq_eq_false_iff_ne, ne_eq] at h3_w); (try simp only [List.forall_mem_cons, List.not_mem_nil, false_implies, implies_true, and_true, ne_eq] at h2_w); first | (simp [h1_w, kstB]; done) | (simp [h1_w, h2_w, kstB]; done) | (simp [h1_w, h3_w, kstB]; done) | (simp [h1_w, h2_w, h3_w, kstB]; done))
  k_with "J2 TurnK" => ((first | with_reducible refine TurnK.ret ?_ | with_reducible refine TurnK.brk ?_); (try dsimp only))
  k_with "J2 isTrue Compare" => (k_here; (with_reducible show wpAny _ _ (isTrue (PySem.Expr.Compare (PySem.Expr.Name _ _) [_] [PySem.Expr.Constant _ _ _] _) _ _) _ _ _); k_dflt ((first | ((with_reducible show wpAny _ _ (isTrue (PySem.Expr.Compare (PySem.Expr.Name _ _) [CmpOp.Eq] [PySem.Expr.Constant (Const.str _) _ _] _) _ _) _ _ _); refine' test_eqS ?k1_J2_26 ?k2_J2_26 ?_ (by exact rfl) (by exact rfl) (by decide)) | ((with_reducible show wpAny _ _ (isTrue (PySem.Expr.Compare (PySem.Expr.Name _ _) [CmpOp.NotEq] [PySem.Expr.Constant (Const.str _) _ _] _) _ _) _ _ _); refine' test_neS ?k1_J2_26 ?k2_J2_26 ?_ (by exact rfl) (by exact rfl) (by decide)) | ((with_reducible show wpAny _ _ (isTrue (PySem.Expr.Compare (PySem.Expr.Name _ _) [CmpOp.Eq] [PySem.Expr.Constant (Const.int _) _ _] _) _ _) _ _ _); refine' test_eqI ?k1_J2_26 ?k2_J2_26 ?_ (by exact rfl) (by exact rfl) (by decide)) | ((with_reducible show wpAny _ _ (isTrue (PySem.Expr.Compare (PySem.Expr.Name _ _) [CmpOp.NotEq] [PySem.Expr.Constant (Const.int _) _ _] _) _ _) _ _ _); refine' test_neI ?k1_J2_26 ?k2_J2_26 ?_ (by exact rfl) (by exact rfl) (by decide)) | ((with_reducible show wpAny _ _ (isTrue (PySem.Expr.Compare (PySem.Expr.Name _ _) [CmpOp.Lt] [PySem.Expr.Constant (Const.int _) _ _] _) _ _) _ _ _); refine' test_ltI ?k1_J2_26 ?k2_J2_26 ?_ (by exact rfl) (by exact rfl) (by decide)) | ((with_reducible show wpAny _ _ (isTrue (PySem.Expr.Compare (PySem.Expr.Name _ _) [CmpOp.LtE] [PySem.Expr.Constant (Const.int _) _ _] _) _ _) _ _ _); refine' test_leI ?k1_J2_26 ?k2_J2_26 ?_ (by exact rfl) (by exact rfl) (by decide)) | ((with_reducible show wpAny _ _ (isTrue (PySem.Expr.Compare (PySem.Expr.Name _ _) [CmpOp.Gt] [PySem.Expr.Constant (Const.int _) _ _] _) _ _) _ _ _); refine' test_gtI ?k1_J2_26 ?k2_J2_26 ?_ (by exact rfl) (by exact rfl) (by decide)) | ((with_reducible show wpAny _ _ (isTrue (PySem.Expr.Compare (PySem.Expr.Name _ _) [CmpOp.GtE] [PySem.Expr.Constant (Const.int _) _ _] _) _ _) _ _ _); refine' test_geI ?k1_J2_26 ?k2_J2_26 ?_ (by exact rfl) (by exact rfl) (by decide))); (case k1_J2_26 => k_asm); (case k2_J2_26 => exact rfl); intro tkt_w))
  trivial
local macro_rules | `(tactic| k_ne) => `(tactic| walk_at "mine ne")
local macro_rules | `(tactic| size_fits) => fwd1 "J2 size_fits"
local macro_rules | `(tactic| l_fit) => `(tactic| walk_at "mine cheap")
local macro_rules | `(tactic| leave1) => fwd1 "J2 leave1"
local macro_rules | `(tactic| ktr_room) => fwd1 "J2 ktr_room"
local macro_rules | `(tactic| ktr_units) => fwd1 "J2 ktr_units"
local macro_rules | `(tactic| walk_at $s) => fwd "J2 " s
theorem off_A1 : True := by
  w_top off
  trivial
section
noncomputable def isDigit (i : Int) : Bool := decide (48 ≤ i) && decide (i ≤ 57)
noncomputable def isSmall (i : Int) : Bool := decide (97 ≤ i) && decide (i ≤ 122)
noncomputable def isCapital (i : Int) : Bool := decide (65 ≤ i) && decide (i ≤ 90)
noncomputable def isAlnum (i : Int) : Bool := isSmall i || (isCapital i || (isDigit i || i == 95))
theorem is_digit_spec (w mean mg mb) (i : Int) (t : Tok) : Spec w mean mg mb 166 [.int i t] [] 1 8 NoPre (IsV (.bool (isDigit i))) NoExc := by
  refine Spec.of ?_
  intro dp un gd cn cs a ccd cl outer A₀ base h₀ L m hh gn dr tk os Q E B F X N T hk hd hu hpre hret hthr
  have hB : Bind [(Str.ofString "code", Value.int i t)] := .is
  walk_at "mine enter"
  k_steps
  all_goals exact ret_pure hret (by assumption) (by assumption) (by show Value.bool _ = Value.bool _; refine congrArg Value.bool (Bool.eq_iff_iff.mpr ?_); simp only [isDigit, Bool.and_eq_true, decide_eq_true_eq] at *; first | exact (and_iff_right (by assumption)).symm | walk_at "mine om")
theorem is_small_spec (w mean mg mb) (i : Int) (t : Tok) : Spec w mean mg mb 173 [.int i t] [] 1 8 NoPre (IsV (.bool (isSmall i))) NoExc := by
  refine Spec.of ?_
  intro dp un gd cn cs a ccd cl outer A₀ base h₀ L m hh gn dr tk os Q E B F X N T hk hd hu hpre hret hthr
  have hB : Bind [(Str.ofString "code", Value.int i t)] := .is
  walk_at "mine enter"
  k_steps
  all_goals exact ret_pure hret (by assumption) (by assumption) (by show Value.bool _ = Value.bool _; refine congrArg Value.bool (Bool.eq_iff_iff.mpr ?_); simp only [isSmall, Bool.and_eq_true, decide_eq_true_eq] at *; first | exact (and_iff_right (by assumption)).symm | walk_at "mine om")
theorem is_capital_spec (w mean mg mb) (i : Int) (t : Tok) : Spec w mean mg mb 180 [.int i t] [] 1 8 NoPre (IsV (.bool (isCapital i))) NoExc := by
  refine Spec.of ?_
  intro dp un gd cn cs a ccd cl outer A₀ base h₀ L m hh gn dr tk os Q E B F X N T hk hd hu hpre hret hthr
  have hB : Bind [(Str.ofString "code", Value.int i t)] := .is
  walk_at "mine enter"
  k_steps
  all_goals exact ret_pure hret (by assumption) (by assumption) (by show Value.bool _ = Value.bool _; refine congrArg Value.bool (Bool.eq_iff_iff.mpr ?_); simp only [isCapital, Bool.and_eq_true, decide_eq_true_eq] at *; first | exact (and_iff_right (by assumption)).symm | walk_at "mine om")
theorem words_J3 : True := by
  k_with "J3 call ref" => ((with_reducible show wpAny _ _ (call (Value.ref 166) _) _ _ _); k_here; k_dflt (refine' Spec.useV (is_digit_spec _ _ _ _ _ _) ?k1_J3_0 ?k2_J3_0 ?k3_J3_0 ?k4_J3_0 ?k5_J3_0 ?kK_J3_0 ?kd_J3_0 ?ku_J3_0 ?_; (case k1_J3_0 => k_asm); (case k2_J3_0 => k_asm); (case k3_J3_0 => k_asm); (case k4_J3_0 => k_asm); (case k5_J3_0 => k_asm); (case kK_J3_0 => first | exact rfl | assumption); (case kd_J3_0 => ktr_room); (case ku_J3_0 => ktr_units); intro h9_w tk9_w K9_w F9_w N9_w; (try k_fold); (try k_sweep)))
  k_with "J3 call ref" => ((with_reducible show wpAny _ _ (call (Value.ref 173) _) _ _ _); k_here; k_dflt (refine' Spec.useV (is_small_spec _ _ _ _ _ _) ?k1_J3_1 ?k2_J3_1 ?k3_J3_1 ?k4_J3_1 ?k5_J3_1 ?kK_J3_1 ?kd_J3_1 ?ku_J3_1 ?_; (case k1_J3_1 => k_asm); (case k2_J3_1 => k_asm); (case k3_J3_1 => k_asm); (case k4_J3_1 => k_asm); (case k5_J3_1 => k_asm); (case kK_J3_1 => first | exact rfl | assumption); (case kd_J3_1 => ktr_room); (case ku_J3_1 => ktr_units); intro h9_w tk9_w K9_w F9_w N9_w; (try k_fold); (try k_sweep)))
  k_with "J3 call ref" => ((with_reducible show wpAny _ _ (call (Value.ref 180) _) _ _ _); k_here; k_dflt (refine' Spec.useV (is_capital_spec _ _ _ _ _ _) ?k1_J3_2 ?k2_J3_2 ?k3_J3_2 ?k4_J3_2 ?k5_J3_2 ?kK_J3_2 ?kd_J3_2 ?ku_J3_2 ?_; (case k1_J3_2 => k_asm); (case k2_J3_2 => k_asm); (case k3_J3_2 => k_asm); (case k4_J3_2 => k_asm); (case k5_J3_2 => k_asm); (case kK_J3_2 => first | exact rfl | assumption); (case kd_J3_2 => ktr_room); (case ku_J3_2 => ktr_units); intro h9_w tk9_w K9_w F9_w N9_w; (try k_fold); (try k_sweep)))
  trivial
local macro_rules | `(tactic| walk_at $s) => fwd "J3 " s
theorem is_alnum_spec (w mean mg mb) (i : Int) (t : Tok) : Spec w mean mg mb 187 [.int i t] [] 2 16 NoPre (IsV (.bool (isAlnum i))) NoExc := by
  refine Spec.of ?_
  intro dp un gd cn cs a ccd cl outer A₀ base h₀ L m hh gn dr tk os Q E B F X N T hk hd hu hpre hret hthr
  have hB : Bind [(Str.ofString "code", Value.int i t)] := .is
  walk_at "mine enter"
  k_steps
  all_goals exact ret_pure hret (by assumption) (by assumption) (by show Value.bool _ = Value.bool _; refine congrArg Value.bool ?_; simp_all [isAlnum])
end
section
theorem words_J4 : True := by
  k_with "J4 call ref" => ((with_reducible show wpAny _ _ (call (Value.ref 173) _) _ _ _); k_here; k_dflt (refine' Spec.useV (is_small_spec _ _ _ _ _ _) ?k1_J4_0 ?k2_J4_0 ?k3_J4_0 ?k4_J4_0 ?k5_J4_0 ?kK_J4_0 ?kd_J4_0 ?ku_J4_0 ?_; (case k1_J4_0 => k_asm); (case k2_J4_0 => k_asm); (case k3_J4_0 => k_asm); (case k4_J4_0 => k_asm); (case k5_J4_0 => k_asm); (case kK_J4_0 => first | exact rfl | assumption); (case kd_J4_0 => ktr_room); (case ku_J4_0 => ktr_units); intro h9_w tk9_w K9_w F9_w N9_w; (try k_fold); (try k_sweep)))
  k_with "J4 call ref" => ((with_reducible show wpAny _ _ (call (Value.ref 187) _) _ _ _); k_here; k_dflt (refine' Spec.useV (is_alnum_spec _ _ _ _ _ _) ?k1_J4_1 ?k2_J4_1 ?k3_J4_1 ?k4_J4_1 ?k5_J4_1 ?kK_J4_1 ?kd_J4_1 ?ku_J4_1 ?_; (case k1_J4_1 => k_asm); (case k2_J4_1 => k_asm); (case k3_J4_1 => k_asm); (case k4_J4_1 => k_asm); (case k5_J4_1 => k_asm); (case kK_J4_1 => first | exact rfl | assumption); (case kd_J4_1 => ktr_room); (case ku_J4_1 => ktr_units); intro h9_w tk9_w K9_w F9_w N9_w; (try k_fold); (try k_sweep)))
  trivial
local macro_rules | `(tactic| walk_at $s) => fwd "J4 " s
theorem off_A2 : True := by
  w_top off
  trivial
noncomputable def alnumS (x : Str) : Bool := match x.cps.toList with
  | [] => false
  | c :: r => isSmall c && (c :: r).all fun k => isAlnum k
theorem item_head (c : Nat) (r : List Nat) : (Txt.item ⟨⟨c :: r⟩⟩ 0).cps.getD 0 0 = c := by
  simp [Txt.item, Txt.charAt, seqIndex?, Str.length]
theorem alnumS_nil {x : Str} (h : (x == Str.ofString "") = true) : false = alnumS x := by
  have : x = Str.ofString "" := by simpa using h
  subst this; rfl
theorem alnumS_small {x : Str} (h1 : 1 ≤ x.length) (h : isSmall ((Txt.item x 0).cps.getD 0 0 : Nat) = false) : false = alnumS x := by
  obtain ⟨⟨l⟩⟩ := x
  cases l with
  | nil => simp [Str.length] at h1
  | cons c r =>
    rw [item_head] at h
    simp [alnumS, h]
theorem alnumS_all {x : Str} (h1 : 1 ≤ x.length) (h : isSmall ((Txt.item x 0).cps.getD 0 0 : Nat) = true) (ha : ((x.cps.toList.take x.cps.size).all fun (k : Nat) => isAlnum k) = true) : true = alnumS x := by
  obtain ⟨⟨l⟩⟩ := x
  cases l with
  | nil => simp [Str.length] at h1
  | cons c r =>
    rw [item_head] at h
    simp [alnumS, h] at ha ⊢
    exact ⟨ha.1, ha.2⟩
theorem alnumS_not {x : Str} {i k : Nat} (h1 : 1 ≤ x.length) (hk : x.cps[i]? = some k) (h : isAlnum k = false) : false = alnumS x := by
  obtain ⟨⟨l⟩⟩ := x
  cases l with
  | nil => simp [Str.length] at h1
  | cons c r =>
    have hm : k ∈ c :: r := List.mem_of_getElem? (by simpa using hk)
    have : ((c :: r).all fun k => isAlnum k) = false := by
      rw [List.all_eq_false]; exact ⟨k, hm, by rw [h]; simp⟩
    simp only [alnumS]
    rw [this, Bool.and_false]
local macro_rules | `(tactic| walk_at $s) => Lean.Macro.throwUnsupported
theorem alnum_name_spec (w mean mg mb) (x : Str) (t : Tok) : Spec w mean mg mb 201 [.str x t] [] 3 24 NoPre (IsV (.bool (alnumS x))) NoExc := by
  refine Spec.of ?_
  intro dp un gd cn cs a ccd cl outer A₀ base h₀ L m hh gn dr tk os Q E B F X N T hk hd hu hpre hret hthr
  have hB : Bind [(Str.ofString "text", Value.str x t)] := .is
  walk_at "mine enter"
  k_steps
  · exact ret_pure hret (by assumption) (by assumption) (congrArg Value.bool (alnumS_nil (by assumption)))
  · walk_at "mine for"
    unfold Hold
    (rename Fr _ _ _ _ => lF'); (rename News _ _ _ _ => lN')
    refine loop_text (σ := Unit) (fun _ => []) (fun _ => []) [] (fun i _ => ((x.cps.toList.take i).all fun (k : Nat) => isAlnum k) = true) () rfl lF' lN' (fun _ h => nomatch h) rfl ?_ ?_
    · intro i k t c u h tk own hkk hI ho F1 N1
      clear lF' lN'
      k_steps
      · refine TurnK.next () (by assumption) (by assumption) (by walk_at "mine in") (fun _ h => nomatch h) ?_ (fun _ h => nomatch h) (by walk_at "mine same")
        have hk2 : x.cps.toList[i]? = some k := by simpa using hkk
        rw [List.take_add_one, hk2]; simp_all
      · exact ret_pure hret (by assumption) (by assumption) (congrArg Value.bool (alnumS_not (by assumption) hkk (by assumption)))
    · intro c u h tk hI F1 N1
      clear lF' lN'
      (try dsimp only)
      k_steps
      exact ret_pure hret (by assumption) (by assumption) (congrArg Value.bool (alnumS_all (by assumption) (by assumption) hI))
  · exact ret_pure hret (by assumption) (by assumption) (congrArg Value.bool (alnumS_small (by assumption) (by assumption)))
theorem off_Txt1 : True := by
  w_top off
  trivial
section
open PySem.NumText
noncomputable def cntS (x : Str) : Option Int := if x.cps.toList ≠ [] ∧ (x.cps.toList.head? = some 48 → x.cps.toList = [48]) ∧ (x.cps.toList.all fun (k : Nat) => isDigit k) = true then some (digitsVal x.cps.toList : Nat) else none
theorem str_eta (x : Str) : (⟨⟨x.cps.toList⟩⟩ : Str) = x := by cases x; rfl
theorem str_ne_nil {x : Str} (h : 1 ≤ x.length) : ∃ c r, x.cps.toList = c :: r := by
  obtain ⟨⟨l⟩⟩ := x
  cases l with
  | nil => simp [Str.length] at h
  | cons c r => exact ⟨c, r, rfl⟩
theorem item0_eq {x : Str} {c : Nat} {r : List Nat} (h : x.cps.toList = c :: r) : Txt.item x 0 = ⟨#[c]⟩ := by
  obtain ⟨⟨l⟩⟩ := x
  simp only at h; subst h
  simp [Txt.item, Txt.charAt, seqIndex?, Str.length]
theorem cnt_empty {x : Str} (h : (x == Str.ofString "") = true) : cntS x = none := by
  have : x = Str.ofString "" := by simpa using h
  subst this; rfl
theorem zero_str : Str.ofString "0" = ⟨#[48]⟩ := by decide +kernel
theorem nine_str : Str.ofString "9" = ⟨#[57]⟩ := by decide +kernel
theorem cnt_lead {x : Str} (h1 : 1 ≤ x.length) (h : (Txt.item x 0 == Str.ofString "0") = true) (h2 : (x != Str.ofString "0") = true) : cntS x = none := by
  obtain ⟨c, r, e⟩ := str_ne_nil h1
  rw [item0_eq e, zero_str] at h
  have hc : c = 48 := by simpa using h
  subst hc
  rw [zero_str] at h2
  unfold cntS
  rw [e, if_neg]
  rintro ⟨_, hz, _⟩
  have hr := hz rfl
  have : x = ⟨#[48]⟩ := by rw [← str_eta x, e, hr]
  simp [this] at h2
theorem one_lt {a b : Nat} : ([a] : List Nat) < [b] ↔ a < b := by rw [List.cons_lt_cons_iff]; simp
theorem lt_zero {k : Nat} (h : ({ cps := #[k] } : Str).cps.toList < (Str.ofString "0").cps.toList) : isDigit k = false := by
  rw [zero_str] at h
  have : k < 48 := one_lt.mp h
  simp [isDigit]; walk_at "mine om"
theorem gt_nine {k : Nat} (h : (Str.ofString "9").cps.toList < ({ cps := #[k] } : Str).cps.toList) : isDigit k = false := by
  rw [nine_str] at h
  have : 57 < k := one_lt.mp h
  simp [isDigit]; walk_at "mine om"
theorem is_dig {k : Nat} (h1 : ¬ ({ cps := #[k] } : Str).cps.toList < (Str.ofString "0").cps.toList) (h2 : ¬ (Str.ofString "9").cps.toList < ({ cps := #[k] } : Str).cps.toList) : isDigit k = true := by
  rw [zero_str] at h1; rw [nine_str] at h2
  have a : ¬ k < 48 := fun q => h1 (one_lt.mpr q)
  have b : ¬ 57 < k := fun q => h2 (one_lt.mpr q)
  simp [isDigit]; walk_at "mine om"
theorem cnt_bad {x : Str} {i k : Nat} (hk : x.cps[i]? = some k) (h : isDigit k = false) : cntS x = none := by
  unfold cntS
  rw [if_neg]
  rintro ⟨_, _, ha⟩
  have hm : k ∈ x.cps.toList := List.mem_of_getElem? (by simpa using hk)
  have := List.all_eq_true.mp ha k hm
  rw [h] at this; cases this
theorem all_step {x : Str} {i k : Nat} (hI : ((x.cps.toList.take i).all fun (k : Nat) => isDigit k) = true) (hk : x.cps[i]? = some k) (h : isDigit k = true) : ((x.cps.toList.take (i + 1)).all fun (k : Nat) => isDigit k) = true := by
  have hk2 : x.cps.toList[i]? = some k := by simpa using hk
  rw [List.take_add_one, hk2]; simp_all
theorem cnt_some {x : Str} (h1 : 1 ≤ x.length) (hz : (Txt.item x 0 == Str.ofString "0") = true → x = Str.ofString "0") (hI : ((x.cps.toList.take x.cps.size).all fun (k : Nat) => isDigit k) = true) : cntS x = some (digitsVal x.cps.toList : Nat) := by
  obtain ⟨c, r, e⟩ := str_ne_nil h1
  unfold cntS
  refine if_pos ⟨by rw [e]; simp, fun hh => ?_, ?_⟩
  · rw [e] at hh
    have hc : c = 48 := by simpa using hh
    have := hz (by rw [item0_eq e, hc, zero_str]; simp)
    rw [this, zero_str]
  · rwa [List.take_of_length_le (by first | walk_at "mine mem1" | simp)] at hI
theorem slice_head {x : Str} {j : Int} (h : (x.length : Int) ≤ j) : Txt.slice x (some 0) (some j) = x := by
  have h0 : Txt.slice x (some 0) (some j) = Txt.slice x (some 0) (some (x.length : Int)) := by
    unfold Txt.slice
    have a : ¬ j < 0 := by walk_at "mine om"
    have b : ¬ ((x.length : Int) < 0) := by walk_at "mine om"
    have c : (1 : Int) > 0 := by decide
    simp only [PySem.Builtin.Str.strSliceIndices, a, b, c, if_false, if_true, Int.min_eq_right h, Int.min_self]
  rw [h0]
  have := beq_iff_eq.mp (slice_closesL (x := x) (i := 0) (j := (x.length : Int)) (by walk_at "mine om") (by walk_at "mine om") (by walk_at "mine om"))
  rw [this]
  have e : x.cps.toList.length = x.length := by simp [Str.length]
  simp only [Int.toNat_zero, List.drop_zero, Int.sub_zero, Int.toNat_natCast, ← e, List.take_length]
theorem piece_int {x : Str} (hx : x.length ≤ 18) (h1 : 1 ≤ x.length) (hI : ((x.cps.toList.take x.cps.size).all fun (k : Nat) => isDigit k) = true) : PySem.intText? (Txt.slice x (some (0 + ((0 : Nat) : Int) * 18)) (some (0 + ((0 : Nat) : Int) * 18 + 18))) = some ((digitsVal x.cps.toList : Nat) : Int) := by
  rw [show (0 : Int) + ((0 : Nat) : Int) * 18 = 0 by walk_at "mine om", slice_head (by walk_at "mine om")]
  obtain ⟨c, r, e⟩ := str_ne_nil h1
  rw [List.take_of_length_le (by first | walk_at "mine mem1" | simp)] at hI
  refine intText_digits (fun c hc => ?_) (by rw [e]; simp) (by walk_at "mine om")
  have := List.all_eq_true.mp hI c hc
  simp [isDigit] at this
  walk_at "mine om"
theorem range18 {x : Str} (h : x.length ≤ 18) : Builtin.Range.small 0 (x.length : Int) 18 = true :=
  (by decide +kernel : ∀ n : Fin 19, Builtin.Range.small 0 ((n : Nat) : Int) 18 = true) ⟨x.length, by walk_at "mine om"⟩
theorem range18_size {x : Str} (h1 : 1 ≤ x.length) (h : x.length ≤ 18) : Builtin.Range.rangeSize 0 (x.length : Int) 18 = ((1 : Nat) : Int) :=
  (by decide +kernel : ∀ n : Fin 19, 1 ≤ (n : Nat) → Builtin.Range.rangeSize 0 ((n : Nat) : Int) 18 = ((1 : Nat) : Int)) ⟨x.length, by walk_at "mine om"⟩ h1
end
end
theorem off_X1 : True := by
  w_top off
  trivial
theorem refuse_LF (self : Value) : refuseLoop self "__setattr__" [.ref 52, .ref 31, .type "Exception", .type "BaseException", .type "object"] = pure () := by
  rw [refuseLoop_ref, refuseLoop_ref]; kernel_rfl
noncomputable abbrev excObj (t : Addr) (d : Option Addr) : Obj := { cls := .ref 52, dict := d, data := .fields #[.ref t, .none, .none, .none, .bool false, .none] }
theorem LF_cls (P : Params) : ∃ cd, clsIn (Mine.hd.heap_1 P) 52 = some cd ∧ cd.mro = [.ref 52, .ref 31, .type "Exception", .type "BaseException", .type "object"] ∧ cd.hasDict = true := ⟨_, by k_is, rfl, rfl⟩
theorem LF_what (P : Params) : findIn (Mine.hd.heap_1 P) (.ref 52) (Str.ofString "what") = some none := by k_is
section
variable {prog : Program} {w : World} {A : Around} {R : Result → Shared → Prop} {gn : Array GenState} {dr : Drawn} {os : OsState} {tk : Nat} {h : Heap}
theorem osa_exc {e t : Addr} {tk' : Tok} {v : Value} (X : (Mine.hd.heap_1 w.params).In h) (he : h.get? e = some (excObj t none))
    (hq : ∀ h' d tk'', Keeps h h' [e] → h'.get? e = some (excObj t (some d)) → R (.ok (.ret .none)) ⟨h', gn, dr, tk'', os⟩) :
    codeAny (model prog w) A (.call (.builtin "object.__setattr__") ⟨[.ref e, .str (Str.ofString "what") tk', v], []⟩) R ⟨h, gn, dr, tk, os⟩ := by
  have SF := PySem.F.store_object
  refine let_goal ?_
  intro gl_P
  obtain ⟨cd, hc, hmro, hdict⟩ := LF_cls w.params
  dsimp only [gl_P]
  clear gl_P
  have ht : Looks (model prog w) h (typeOf (.ref e)) (.ref 52) := (Looks.ld (part := none) he).andThen .now
  have hsub : Looks (model prog w) h (isInstance (.ref e) (.type "object")) true := ht.andThen (looks_mroIn X (by k_is))
  refine codeAny_call_builtin SF.slot.plain SF.entry (@check_slot (model prog w) _ _ _ "object.__setattr__" "object" "__setattr__" (.ref e) [.str (Str.ofString "what") tk', v] [] _ SF.kind SF.split hsub (SF.args (.ref e) _ v) ?_)
  have hm : Looks (model prog w) h (mroOf (.ref 52)) cd.mro := (looks_clsIn X hc).andThen .now
  rw [osa_eq, refuse_eq]
  refine wpAny_bind (wpAny_bind (ht.at (wpAny_bind (hm.at ?_))))
  rw [hmro, refuse_LF]
  refine wpAny_pure (wpAny_bind (ht.at (wpAny_bind ((looks_findIn X (LF_what _)).at ?_))))
  refine wpAny_bind (wpAny_pure ?_)
  refine wpAny_bind (wpAny_pure (wpAny_bind (wpAny_bind (wpAny_loadPart he (wpAny_bind ((looks_clsIn X hc).at ?_))))))
  rw [hdict]
  show wpAny _ _ (alloc { cls := Value.type "dict", data := Data.dict #[] } >>= fun d => update e (fun o => { cls := o.cls, dict := some d, data := o.data, slots := o.slots }) >>= fun _ => pure (some d)) _ _ _
  refine wpAny_bind (wpAny_alloc ?_)
  have he1 : (h.push { cls := Value.type "dict", data := Data.dict #[] }).get? e = some (excObj t none) := Heap.get?_push_of_some _ he
  have hne : e ≠ h.objs.size := Nat.ne_of_lt (Heap.lt_size he)
  refine wpAny_bind (wpAny_update he1 (wpAny_pure ?_))
  show wpAny _ _ (Builtin.ObjectAttr.storeInDict _ _ _ _) _ _ _
  have he2 : ((h.push { cls := Value.type "dict", data := Data.dict #[] }).update e fun o => { cls := o.cls, dict := some h.objs.size, data := o.data, slots := o.slots }).get? e = some (excObj t (some h.objs.size)) := Heap.get?_update_self _ he1 rfl
  have hd2 : ((h.push { cls := Value.type "dict", data := Data.dict #[] }).update e fun o => { cls := o.cls, dict := some h.objs.size, data := o.data, slots := o.slots }).get? h.objs.size = some { cls := Value.type "dict", data := Data.dict #[] } := by
    rw [Heap.get?_update_ne _ _ _ _ hne.symm]; exact Heap.get?_push_size _ rfl
  have hk2 : Keeps h ((h.push { cls := Value.type "dict", data := Data.dict #[] }).update e fun o => { cls := o.cls, dict := some h.objs.size, data := o.data, slots := o.slots }) [e] := fun b o hb hn => by
    rw [Heap.get?_update_ne _ _ _ _ fun q => hn (by rw [q]; exact List.mem_singleton.mpr rfl)]
    exact Heap.get?_push_of_some _ hb
  generalize ((h.push { cls := Value.type "dict", data := Data.dict #[] }).update e fun o => { cls := o.cls, dict := some h.objs.size, data := o.data, slots := o.slots }) = h2 at he2 hd2 hk2 ⊢
  unfold Builtin.ObjectAttr.storeInDict
  refine wpAny_bind (wpAny_pure (wpAny_bind ?_))
  unfold nsSet
  refine wpAny_bind (wpAny_bind (wpAny_askSetting (wpAny_pure (wpAny_bind (wpAny_mkText (wpAny_bind (wpAny_loadPart hd2 ?_)))))))
  (try dsimp only)
  rw [aRefKeyMayBeTheName_at]
  rw [if_neg (by first | walk_at "mine mem1" | simp)]
  refine wpAny_updatePart hd2 ?_
  refine wpAny_bind (wpAny_lookBehind (Heap.get?_update_self _ hd2 rfl) rfl (wpAny_pure ?_))
  refine hq _ h.objs.size _ (fun b o hb hn => ?_) ?_
  · exact (Heap.get?_update_ne _ _ _ _ (Nat.ne_of_lt (Heap.lt_size hb))).trans (hk2 b o hb hn)
  · exact (Heap.get?_update_ne _ _ _ _ hne).trans he2
end
theorem off_X2 : True := by
  w_top off
  trivial
section
section
variable {prog : Program} {w : World} {A : Around} {E : Value → Shared → Prop} {gn : Array GenState} {dr : Drawn} {os : OsState} {tk : Nat} {h h₀ : Heap} {L : Addr} {m : Str → Option Value} {news : List (Addr × Obj)}
theorem set_exc {e t : Addr} {v : Value} {Q : Unit → Shared → Prop} (F : Fr h₀ L h m) (N : News h₀ L h ((e, excObj t none) :: news)) (X₀ : (Mine.hd.heap_1 w.params).In h₀) (hoff : ∀ p ∈ news, p.1 ≠ e)
    (hq : ∀ h' d tk', Fr h₀ L h' m → News h₀ L h' ((e, excObj t (some d)) :: news) → Q () ⟨h', gn, dr, tk', os⟩) :
    wpAny (model prog w) A (setAttr (.ref e) (Str.ofString "what") v) Q E ⟨h, gn, dr, tk, os⟩ := by
  have he := (N _ (List.Mem.head _)).1
  have X := X₀.keeps F.keep
  refine set_plain (K := Mine.hd.heap_1 w.params) (C := 52) (od := none) X ⟨he, rfl, rfl, trivial⟩ (by k_is) (osa_exc X he fun h' d tk'' hk he' => ?_)
  have hk' : Keeps h h' ([(e, excObj t none)].map (·.1)) := hk
  exact hq h' d tk'' (fr_keeps F (news_sub N (by first | walk_at "mine mem1" | simp)) hk') (news_old N (List.Mem.head _) (news_keeps (news_sub N fun p hp => List.mem_cons_of_mem _ hp) hk fun p hp q => hoff p hp (List.mem_singleton.mp q)) he')
end
theorem words_J5 : True := by
  k_with "J5 setAttr ref" => (k_here; k_dflt (refine' set_exc ?k1_J5_0 ?k2_J5_0 ?k3_J5_0 ?k4_J5_0 ?_; (case k1_J5_0 => k_asm); (case k2_J5_0 => k_asm); (case k3_J5_0 => k_asm); (case k4_J5_0 => exact List.forall_mem_nil _); intro h9_w d9_w tk9_w F9_w N9_w; (try k_sweep)))
  trivial
local macro_rules | `(tactic| walk_at $s) => fwd "J5 " s
noncomputable def LFInit (e t : Addr) : Heap → Heap → Value → Prop := fun _ h' v => v = .none ∧ ∃ d, h'.get? e = some (excObj t (some d))
theorem LF_init_spec (w mean mg mb) (e t : Addr) (v : Value) : Spec w mean mg mb 49 [.ref e, v] [(e, excObj t none)] 1 8 NoPre (LFInit e t) NoExc := by
  refine Spec.of ?_
  intro dp un gd cn cs a ccd cl outer A₀ base h₀ L m hh gn dr tk os Q E B F X N T hk hd hu hpre hret hthr
  have hB : Bind [(Str.ofString "self", Value.ref e), (Str.ofString "what", v)] := .is
  walk_at "mine enter"
  k_steps
  exact ret_pure hret (by assumption) (by assumption) ⟨rfl, _, News.get (by assumption) (List.Mem.head _)⟩
end
theorem off_X3 : True := by
  w_top off
  trivial
theorem LF_obj (P : Params) : ∃ bs hdct sn sub ab col dd k0 k1 k2 k3 k5, List.lookup 52 (Mine.hd.heap_1 P) = some (excClassObj (Str.ofString "LinkFault") (Str.ofString "LinkFault") 52 51 bs [.ref 31, .type "Exception", .type "BaseException", .type "object"] hdct sn sub ab col dd k0 k1 k2 k3 k5 "Exception.__new__") :=
  ⟨_, _, _, _, _, _, _, _, _, _, _, _, by k_is⟩
theorem LF_tail (P : Params) : tailIn (Mine.hd.heap_1 P) [.type "Exception", .type "BaseException", .type "object"] [.ref 31, .type "Exception", .type "BaseException", .type "object"] = true := by kernel_rfl
theorem LF_initIs (P : Params) : findIn (Mine.hd.heap_1 P) (.ref 52) (Str.ofString "__init__") = some (some (.ref 49)) := by k_is
theorem LF_initFn (P : Params) : typeIn (Mine.hd.heap_1 P) (.ref 49) = some (.type "function") := by k_is
section
variable {w : World} {mean : ExcName → Option Value} {mg mb : Str → Option Value}
  {dp un : Nat} {gd : Option (List Code)} {cn : Str} {cs : Scope} {a : Addr} {ccd : Value} {cl : List (Str × Addr)} {outer : List Env} {A₀ : Around} {base h₀ h : Heap} {L : Addr} {m : Str → Option Value} {Q E : Value → Shared → Prop} {gn : Array GenState} {dr : Drawn} {os : OsState} {tk : Nat}
theorem LF_made {v : Value} (B : Below A₀ base outer h₀) (F : Fr h₀ L h m) (X : (Mine.hd.heap_1 w.params).In h₀) (T : Top PV LO mean mg mb h₀) (hk : cs.kind = .function) (hd : dp + 3 < recursionLimit) (hu : un + 16 < cLine)
    (ret : ∀ e t d h' tk', Keeps h h' [] → h.get? e = none → h'.get? e = some (excObj t (some d)) → Fr h₀ L h' m → Q (.ref e) ⟨h', gn, dr, tk', os⟩) :
    wpAny (model PG w) (ktrTop dp un gd cn cs L a ccd cl outer) (call (.ref 52) [v]) Q E ⟨h, gn, dr, tk, os⟩ := by
  have FB := PySem.F.excBase_Exception
  have Xh := X.keeps F.keep
  refine let_goal ?_
  intro gl_P
  obtain ⟨bs, hdct, sn, sub, ab, col, dd, k0, k1, k2, k3, k5, hl⟩ := LF_obj w.params
  dsimp only [gl_P]
  clear gl_P
  have hC := Xh _ _ hl
  have TL := tail_of_in Xh (LF_tail w.params)
  have f1 := tc_lookup
  have f2 := tc_bind (.ref 52)
  have hT : (⟨h, gn, dr, tk, os⟩ : Shared).TypeIs (.ref 52) "type" := ⟨_, hC, rfl⟩
  refine wpAny_call (codeAny_of_tree ?_)
  show wpAny _ _ (callAny (.ref 52) _) _ _ _
  repeat (any_goals (first | assumption | with_reducible refine wpAny_loadPart_at hC ?_ | wp_step))
  refine ⟨rfl, ?_⟩
  refine codeAny_call_builtin_at (Code.quiet_builtin _ (by decide +kernel)) entry_typeCall (wpAny_check_type_call_sub hC ?_)
  repeat (first | with_reducible refine wpAny_loadPart_at hC ?_ | with_reducible refine wpAny_madeBy_exc hC ?_ | wp_step)
  refine codeAny_call_builtin_code (Code.quiet_builtin _ FB.quiet) (wpAny_check_new_subT FB TL hC ?_)
  refine codeAny_exc_new_subT FB TL hC ?_ (by simp [sizeLine_eq])
  show wpAny _ _ _ _ _ _
  dsimp only [List.cons_append, List.nil_append, List.append]
  have F2 : Fr h₀ L ((h.push { cls := .type "tuple", data := .seq [v].toArray }).push (excObj h.objs.size none)) m := (F.push _).push _
  have hget : ((h.push { cls := .type "tuple", data := .seq [v].toArray }).push (excObj h.objs.size none)).get? (h.objs.size + 1) = some (excObj h.objs.size none) := by
    have := Heap.get?_push_size (h.push { cls := .type "tuple", data := .seq [v].toArray }) (o := excObj h.objs.size none) rfl
    rwa [Heap.size_push] at this
  have hk2 : Keeps h ((h.push { cls := .type "tuple", data := .seq [v].toArray }).push (excObj h.objs.size none)) [] := fun b o hb _ => Heap.get?_push_of_some _ (Heap.get?_push_of_some _ hb)
  have hnew : h.get? (h.objs.size + 1) = none := Heap.get?_none_of_le (Nat.le_succ _)
  have N2 : News h₀ L ((h.push { cls := .type "tuple", data := .seq [v].toArray }).push (excObj h.objs.size none)) [(h.objs.size + 1, excObj h.objs.size none)] := news_new F News.nil hnew hget
  have hC1 : ((h.push { cls := .type "tuple", data := .seq [v].toArray }).push (excObj h.objs.size none)).get? 52 = _ := hk2 _ _ hC (by first | walk_at "mine mem1" | simp)
  show wpAny _ _ _ _ _ ⟨(h.push { cls := .type "tuple", data := .seq [v].toArray }).push (excObj h.objs.size none), gn, dr, tk, os⟩
  generalize ((h.push { cls := .type "tuple", data := .seq [v].toArray }).push (excObj h.objs.size none)) = h2 at F2 hget hk2 N2 hC1 ⊢
  have hcC : (Value.ref 52 :: [Value.ref 31, Value.type "Exception", Value.type "BaseException", Value.type "object"]).contains (.ref 52) = true := by simp
  unfold isInstance
  repeat (first | with_reducible refine wpAny_loadPart_at hget ?_ | (with_reducible refine wpAny_isSubtype_exc hC1 ?_; rw [hcC]) | wp_step)
  have X2 := X.keeps F2.keep
  refine (looks_findIn X2 (LF_initIs w.params)).at ?_
  refine wpAny_holding (wpAny_bind ((bind_fn X2 _ (LF_initFn w.params)).at ?_))
  refine wpAny_bind ?_
  refine Spec.use (dp := dp + 1) (LF_init_spec w mean mg mb (h.objs.size + 1) h.objs.size v) B F2 X N2 T hk ?_ ?_ (fun _ hp => hp) trivial ?_ ?_
  · simp only [recursionLimit] at hd ⊢; walk_at "mine om"
  · have h8 : (Code.builtin "type.__call__" { pos := [Value.ref 52, v] }).cUnits ≤ 8 := Nat.le_of_ble_eq_true rfl
    show un + (Code.builtin "type.__call__" { pos := [Value.ref 52, v] }).cUnits + 8 < cLine
    walk_at "mine om"
  · rintro u h3 tk3 hk3 F3 ⟨rfl, d, hd3⟩
    refine wpAny_pure ?_
    show wpAny _ _ (if _ then _ else _) _ _ _
    rw [if_neg (by decide)]
    refine wpAny_pure ?_
    exact ret _ _ d h3 tk3 (fun b o hb _ => hk3 b o (hk2 b o hb (by first | walk_at "mine mem1" | simp)) fun q => by
      rw [List.mem_singleton.mp q] at hb; rw [hnew] at hb; cases hb) hnew hd3 F3
  · rintro e h3 tk3 ⟨_, _, _, x, _⟩
    exact x.elim
end
theorem off_X4 : True := by
  w_top off
  trivial
noncomputable def RaiseEnd (w : World) (E : Value → Shared → Prop) (v : Value) (s : Shared) : Prop := ∃ e t d, v = .ref e ∧ (Mine.hd.heap_1 w.params).In s.heap ∧ s.heap.get? e = some (excObj t (some d)) ∧ E v s
section
variable {w : World} {A : Around} {E : Value → Shared → Prop} {s : Shared} {env : Env}
theorem raise_LF {x : Expr} {pos : Pos} {Q : Flow → Shared → Prop} (hh : A.handled = none) (h : wpAny (model PG w) A (eval x env) (RaiseEnd w E) E s) :
    wpAny (model PG w) A (exec (.Raise (some x) none pos) env) Q E s := by
  rw [arm_exec_Raise]
  refine wpAny_bind (wpAny_standAt ?_)
  show wpAny (model PG w) A (raiseStmt env (some _) none) Q E s
  unfold raiseStmt
  refine wpAny_bind (wpAny_mono (wpAny_bind (wpAny_mono h (fun v s₁ h₁ => wpAny_bind (wpAny_standAt (wpAny_pure h₁))) fun _ _ y => y)) (fun v s₁ h₁ => ?_) fun _ _ y => y)
  obtain ⟨e, t, d, rfl, X, he, hE⟩ := h₁
  refine let_goal ?_
  intro gl_P
  obtain ⟨hp, g, dd, tk, os⟩ := s₁
  obtain ⟨bs, hdct, sn, sub, ab, col, dd', k0, k1, k2, k3, k5, hl⟩ := LF_obj w.params
  dsimp only [gl_P]
  clear gl_P
  have hC := X _ _ hl
  have hcB : (Value.ref 52 :: [Value.ref 31, Value.type "Exception", Value.type "BaseException", Value.type "object"]).contains (.type "BaseException") = true := by simp
  repeat (first | with_reducible refine wpAny_loadPart_at he ?_ | with_reducible refine wpAny_loadPart_at hC ?_ | (with_reducible refine wpAny_isSubtype_exc hC ?_; rw [hcB]) | wp_step)
  exact wpAny_raiseNew_none hh hE
end
section
variable {M : Model} {A : Around} {base g h h' : Heap} {L' e t d : Addr} {m' : Str → Option Value} {news mu : List (Addr × Obj)} {outer : List Env} {name : Str} {scope : Scope} {fa : Addr} {cd : Value} {exc : Heap → Heap → Prop} {gn : Array GenState} {dr : Drawn} {os : OsState} {tk : Nat} {hs : Heap}
theorem thrown_new {E : Value → Shared → Prop} {E' : Value → Shared → Prop} (B' : Below A base outer g) (HG : Keeps hs g (mu.map (·.1))) (F' : Fr g L' h m') (N' : News g L' h news) (hk : Keeps h h' []) (hn : h.get? e = none) (he : h'.get? e = some (excObj t (some d)))
    (hexc : ∀ Bh, (∀ p ∈ news, Bh.get? p.1 = some p.2) → (∀ b o, g.get? b = some o → b ∉ outer.filterMap (·.frame) → Bh.get? b = some o) → exc hs Bh)
    (hthr : ∀ e h' tk', Thrown base outer hs (mu.map (·.1)) exc e h' → E (.ref e) ⟨h', gn, dr, tk', os⟩) (hkd : scope.kind = .function) :
    wpAny M (A.deeper (envOf name scope L' fa cd)) (leaving (envOf name scope L' fa cd) (.ref e)) (fun _ s'' => E (.ref e) s'') E' ⟨h', gn, dr, tk, os⟩ := by
  have K' := B'.push (name := name) (a := fa) (cd := cd) F' hkd
  have hin : ∀ env ∈ (envOf name scope L' fa cd :: outer), ∀ b, env.frame = some b → b ∈ (envOf name scope L' fa cd :: outer).filterMap (·.frame) := fun env he b hb => List.mem_filterMap.mpr ⟨env, he, hb⟩
  have hFF := funFrames_hide K'.frames hin
  have hLn : ∀ b ∈ outer.filterMap (·.frame), ∃ o, g.get? b = some o := fun b hb => by
    refine let_goal ?_
    intro gl_P
    obtain ⟨_, o, ho, _⟩ := B'.frames.mem hb
    dsimp only [gl_P]
    clear gl_P
    exact ⟨o, ho⟩
  have hgB : ∀ b o, g.get? b = some o → b ∉ outer.filterMap (·.frame) → (hideAll h ((envOf name scope L' fa cd :: outer).filterMap (·.frame))).get? b = some o := fun b o hb hf => hideAll_get _ (F'.keep b o hb) fun q => by
    rcases kts_mem q with z | z
    · subst z; exact absurd (Nat.lt_of_lt_of_le (Heap.lt_size hb) F'.above) (Nat.lt_irrefl _)
    · exact hf z
  have hnB : ∀ p ∈ news, (hideAll h ((envOf name scope L' fa cd :: outer).filterMap (·.frame))).get? p.1 = some p.2 := fun p hp => hideAll_get _ (N' p hp).1 fun q => by
    rcases kts_mem q with z | z
    · exact (N' p hp).2.1 z
    · obtain ⟨o, ho⟩ := hLn _ z
      rw [(N' p hp).2.2] at ho; cases ho
  refine wpAny_leaving_firstW (base := hideAll h ((envOf name scope L' fa cd :: outer).filterMap (·.frame))) (Around.frames_deeper B'.stack) (hFF.of_keeps fun b o hb _ => ⟨o, hk b o hb (by first | walk_at "mine mem1" | simp), rfl⟩) rfl he (fun b o hb => hk b o (of_hideAll _ hb) (by first | walk_at "mine mem1" | simp)) ?_ rfl rfl rfl fun h'' hL => ?_
  · cases q : (hideAll h ((envOf name scope L' fa cd :: outer).filterMap (·.frame))).get? e with
    | none => rfl
    | some o => have := of_hideAll _ q; rw [hn] at this; cases this
  · obtain ⟨k1, ⟨_, _, k2⟩, k3, k4⟩ := hL
    refine hthr e h'' tk ⟨_, fun b o hb => ?_, fun b o hb hn' hf => hgB b o (HG b o hb hn') hf, hexc _ hnB hgB, ⟨_, k1, ?_, k2, k3⟩, fun b _ o ho hn' hd => k4 b o (hk b o (F'.keep b o (HG b o ho hn')) (by first | walk_at "mine mem1" | simp)) hd⟩
    · refine hgB b o (B'.stays b o hb) fun q => ?_
      rw [(B'.frames.mem q).1] at hb; cases hb
    · cases q : (hideAll h ((envOf name scope L' fa cd :: outer).filterMap (·.frame))).get? e with
      | none => rfl
      | some o => have := of_hideAll _ q; rw [hn] at this; cases this
end
noncomputable def IntOr (r : Option Int) : Heap → Heap → Value → Prop := fun _ _ v => ∃ n t, r = some n ∧ v = .int n t
noncomputable def StrOr (r : Option Str) : Heap → Heap → Value → Prop := fun _ _ v => ∃ x t, r = some x ∧ v = .str x t
noncomputable def NoneExc {α : Type} (r : Option α) : Heap → Heap → Prop := fun _ _ => r = none
section
variable {w : World} {mean : ExcName → Option Value} {mg mb : Str → Option Value} {f : Addr} {vs : List Value} {dn un' : Nat} {pre : Heap → Prop} {post : Heap → Heap → Value → Prop} {exc : Heap → Heap → Prop}
  {dp un : Nat} {gd : Option (List Code)} {cn : Str} {cs : Scope} {a : Addr} {ccd : Value} {cl : List (Str × Addr)} {outer : List Env} {A₀ : Around} {base h₀ : Heap} {L : Addr} {m : Str → Option Value} {Q E : Value → Shared → Prop} {news : List (Addr × Obj)}
theorem Spec.useE {h : Heap} {gn : Array GenState} {dr : Drawn} {tk : Nat} {os : OsState} (S : Spec w mean mg mb f vs [] dn un' pre post exc) (B : Below A₀ base outer h₀) (F : Fr h₀ L h m) (X : (Mine.hd.heap_1 w.params).In h₀) (N : News h₀ L h news) (T : Top PV LO mean mg mb h₀) (hk : cs.kind = .function)
    (hd : dp + dn < recursionLimit) (hu : un + un' < cLine) (hp : pre h)
    (ret : ∀ v h' tk', Keeps h h' [] → Fr h₀ L h' m → News h₀ L h' news → post h h' v → Q v ⟨h', gn, dr, tk', os⟩)
    (thr : ∀ e h' tk', Thrown base (envX cn cs L a ccd cl :: outer) h (([] : List (Addr × Obj)).map (·.1)) exc e h' → E (.ref e) ⟨h', gn, dr, tk', os⟩) :
    wpAny (model PG w) (ktrTop dp un gd cn cs L a ccd cl outer) (call (.ref f) vs) Q E ⟨h, gn, dr, tk, os⟩ :=
  S.use B F X N T hk hd hu (fun _ h => nomatch h) hp (fun v h' tk' k F' po => ret v h' tk' k F' (news_keeps0 N k) po) thr
theorem Spec.useI {r : Option Int} {h : Heap} {gn : Array GenState} {dr : Drawn} {tk : Nat} {os : OsState} (S : Spec w mean mg mb f vs [] dn un' pre (IntOr r) (NoneExc r)) (B : Below A₀ base outer h₀) (F : Fr h₀ L h m) (X : (Mine.hd.heap_1 w.params).In h₀) (N : News h₀ L h news) (T : Top PV LO mean mg mb h₀) (hk : cs.kind = .function)
    (hd : dp + dn < recursionLimit) (hu : un + un' < cLine) (hp : pre h)
    (ret : ∀ n t h' tk', r = some n → Keeps h h' [] → Fr h₀ L h' m → News h₀ L h' news → Q (.int n t) ⟨h', gn, dr, tk', os⟩)
    (thr : ∀ e h' tk', Thrown base (envX cn cs L a ccd cl :: outer) h (([] : List (Addr × Obj)).map (·.1)) (NoneExc r) e h' → E (.ref e) ⟨h', gn, dr, tk', os⟩) :
    wpAny (model PG w) (ktrTop dp un gd cn cs L a ccd cl outer) (call (.ref f) vs) Q E ⟨h, gn, dr, tk, os⟩ :=
  S.useE B F X N T hk hd hu hp (fun v h' tk' k F' N' ⟨n, t, e, ev⟩ => ev ▸ ret n t h' tk' e k F' N') thr
theorem Spec.useS {r : Option Str} {h : Heap} {gn : Array GenState} {dr : Drawn} {tk : Nat} {os : OsState} (S : Spec w mean mg mb f vs [] dn un' pre (StrOr r) (NoneExc r)) (B : Below A₀ base outer h₀) (F : Fr h₀ L h m) (X : (Mine.hd.heap_1 w.params).In h₀) (N : News h₀ L h news) (T : Top PV LO mean mg mb h₀) (hk : cs.kind = .function)
    (hd : dp + dn < recursionLimit) (hu : un + un' < cLine) (hp : pre h)
    (ret : ∀ x t h' tk', r = some x → Keeps h h' [] → Fr h₀ L h' m → News h₀ L h' news → Q (.str x t) ⟨h', gn, dr, tk', os⟩)
    (thr : ∀ e h' tk', Thrown base (envX cn cs L a ccd cl :: outer) h (([] : List (Addr × Obj)).map (·.1)) (NoneExc r) e h' → E (.ref e) ⟨h', gn, dr, tk', os⟩) :
    wpAny (model PG w) (ktrTop dp un gd cn cs L a ccd cl outer) (call (.ref f) vs) Q E ⟨h, gn, dr, tk, os⟩ :=
  S.useE B F X N T hk hd hu hp (fun v h' tk' k F' N' ⟨n, t, e, ev⟩ => ev ▸ ret n t h' tk' e k F' N') thr
end
section
variable {w : World} {mean : ExcName → Option Value} {mg mb : Str → Option Value} {dp un : Nat} {gd : Option (List Code)} {cn : Str} {cs : Scope} {a : Addr} {ccd : Value} {cl : List (Str × Addr)} {outer : List Env} {A₀ : Around} {base h₀ h : Heap} {L : Addr} {m : Str → Option Value} {gn : Array GenState} {dr : Drawn} {tk : Nat} {os : OsState} {E : Value → Shared → Prop} {Q : Flow → Shared → Prop} {arg : PySem.Expr} {p1 p2 pos : Pos}
theorem raise_link (B : Below A₀ base outer h₀) (F : Fr h₀ L h m) (X : (Mine.hd.heap_1 w.params).In h₀) (T : Top PV LO mean mg mb h₀) (hk : cs.kind = .function) (hd : dp + 3 < recursionLimit) (hu : un + 16 < cLine)
    (ha : ∀ R : Value → Shared → Prop, AnyV h gn dr os R → wpAny (model PG w) (ktrTop dp un gd cn cs L a ccd cl outer) (eval arg (envX cn cs L a ccd cl)) R E ⟨h, gn, dr, tk, os⟩)
    (hx : ∀ e t d h' tk', Keeps h h' [] → h.get? e = none → h'.get? e = some (excObj t (some d)) → E (.ref e) ⟨h', gn, dr, tk', os⟩)
    (hl : (envX cn cs L a ccd cl).kindOf (Str.ofString "LinkFault") = some .globalImplicit := by rfl) (he : starEach [arg] (envX cn cs L a ccd cl) = (false, eval arg (envX cn cs L a ccd cl)) :: starEach [] (envX cn cs L a ccd cl) := by rfl) :
    wpAny (model PG w) (ktrTop dp un gd cn cs L a ccd cl outer) (exec (.Raise (some (.Call (.Name (Str.ofString "LinkFault") p1) [arg] [] p2)) none pos) (envX cn cs L a ccd cl)) Q E ⟨h, gn, dr, tk, os⟩ := by
  refine raise_LF rfl (Call_ (nameX_K (v := .ref 52) F X (topRead_of T) (by k_is) ?_ hk hl))
  refine callWith_K X (by k_is) ?_ he
  refine args_cons ?_ he
  refine ha _ fun v tk' => ?_
  refine args_nil ⟨X.keeps F.keep, ?_⟩
  show wpAny _ _ (call (.ref 52) [v]) _ _ _
  refine LF_made B F X T hk hd hu fun e t d h' tk2 K n g F' => ?_
  exact ⟨e, t, d, rfl, X.keeps F'.keep, g, hx e t d h' tk2 K n g⟩
end
section
theorem words_J6 : True := by
  k_with "J6 call builtin:len" => ((with_reducible show wpAny _ _ (call (Value.builtin "len") [Value.ref _]) _ _ _); (with_reducible refine len_strs (Fr.lst (by assumption) (by assumption)) (by assumption) (by assumption) ?_ ?_); (k_dflt (exact rfl)))
  k_with "J6 exec Raise some none" => (k_here; k_dflt (refine raise_LF rfl ?_))
  k_with "J6 exec Raise some none" => (k_here; (with_reducible show wpAny _ _ (exec (Stmt.Raise (some (PySem.Expr.Call (PySem.Expr.Name _ _) [_] [] _)) none _) _) _ _ _); k_dflt (refine' raise_link ?k1_J6_2 ?k2_J6_2 ?k3_J6_2 ?k4_J6_2 ?k5_J6_2 ?kd_J6_2 ?ku_J6_2 (fun R9_w hR9_w => ?_) (fun e9_w t9_w d9_w h9_w tk9_w K9_w n9_w g9_w => ?_); (case k1_J6_2 => k_asm); (case k2_J6_2 => k_asm); (case k3_J6_2 => k_asm); (case k4_J6_2 => k_asm); (case k5_J6_2 => first | exact rfl | assumption); (case kd_J6_2 => ktr_room); (case ku_J6_2 => ktr_units)))
  k_with "J6 call ref" => ((with_reducible show wpAny _ _ (call (Value.ref 52) _) _ _ _); k_here; k_dflt (refine' LF_made ?k1_J6_3 ?k2_J6_3 ?k3_J6_3 ?k5_J6_3 ?kK_J6_3 ?kd_J6_3 ?ku_J6_3 ?_; (case k1_J6_3 => k_asm); (case k2_J6_3 => k_asm); (case k3_J6_3 => k_asm); (case k5_J6_3 => k_asm); (case kK_J6_3 => first | exact rfl | assumption); (case kd_J6_3 => ktr_room); (case ku_J6_3 => ktr_units); intro e9_w t9_w d9_w h9_w tk9_w K9_w n9_w g9_w F9_w; (try k_fold)))
  k_with "J6 RaiseEnd" => (refine ⟨_, _, _, rfl, by k_in, by assumption, ?_⟩)
  k_with "J6 leaving ref" => refine Hold.in ?_
  k_with "J6 mine thrown" => (unfold Hold; first | (refine' thrown_new ?k1_J6_6 ?k2_J6_6 ?k3_J6_6 ?k4_J6_6 ?k5_J6_6 ?k6_J6_6 ?k7_J6_6 ?_ ?k9_J6_6 rfl; (case k5_J6_6 => assumption); (case k1_J6_6 => assumption); (case k2_J6_6 => assumption); (case k3_J6_6 => assumption); (case k4_J6_6 => assumption); (case k6_J6_6 => assumption); (case k7_J6_6 => assumption); (case k9_J6_6 => assumption)) | (refine' thrown_up rfl ?k2_J6_6 ?k3_J6_6 ?k4_J6_6 ?k5_J6_6 ?k6_J6_6 ?_ ?k9_J6_6; (case k6_J6_6 => assumption); (case k2_J6_6 => assumption); (case k3_J6_6 => assumption); (case k4_J6_6 => assumption); (case k5_J6_6 => first | exact List.forall_mem_nil _ | exact fun _ hp_w => hp_w | exact fun _ hp_w => List.Mem.tail _ hp_w | exact fun _ hp_w => List.Mem.tail _ (List.Mem.tail _ hp_w) | exact fun _ hp_w => List.Mem.tail _ (List.Mem.tail _ (List.Mem.tail _ hp_w)) | exact fun _ hp_w => List.Mem.tail _ (List.Mem.tail _ (List.Mem.tail _ (List.Mem.tail _ hp_w)))); (case k9_J6_6 => intro h_w; first | apply_assumption | assumption)))
  k_with "J6 subscriptTail" => ((with_reducible show wpAny _ _ (subscriptTail _ _ (Value.str _ _) (Value.int _ _)) _ _ _); refine item_str (fitsSsize_of (N := 9223372036854775808) (by walk_at "mine cheap") (by walk_at "mine cheap") (Int.le_refl _)) (by walk_at "mine cheap") (by walk_at "mine cheap") ?_; intro _)
  k_with "J6 subscriptTail Name Name ref int" => (refine item_strsA (Fr.lst (by assumption) (by assumption)) (by assumption) (by walk_at "mine cheap") (by walk_at "mine cheap") (by walk_at "mine cheap") ?_; intro _)
  k_with "J6 subscriptTail Name Constant ref int" => (refine item_strsA (Fr.lst (by assumption) (by assumption)) (by assumption) (by walk_at "mine cheap") (by walk_at "mine cheap") (by walk_at "mine cheap") ?_; intro _)
  trivial
local macro_rules | `(tactic| walk_at $s) => fwd "J6 " s
theorem off_A3 : True := by
  w_top off
  trivial
local macro_rules | `(tactic| walk_at $s) => Lean.Macro.throwUnsupported
theorem read_count_spec (w mean mg mb) (x : Str) (t : Tok) (hx : x.length ≤ 18) : Spec w mean mg mb 341 [.str x t] [] 4 32 NoPre (IntOr (cntS x)) (NoneExc (cntS x)) := by
  refine Spec.of ?_
  intro dp un gd cn cs a ccd cl outer A₀ base h₀ L m hh gn dr tk os Q E B F X N T hk hd hu hpre hret hthr
  have hB : Bind [(Str.ofString "word", Value.str x t)] := .is
  walk_at "mine enter"
  with_reducible refine execs_join (1 ≤ x.length ∧ ((Txt.item x 0 == Str.ofString "0") = true → x = Str.ofString "0")) ?hs ?hn
  case hs =>
    intro Q1 hQ1 hQ2
    k_steps
    · walk_at "mine thrown"
      exact fun _ _ _ => cnt_empty (by assumption)
    · walk_at "mine thrown"
      exact fun _ _ _ => cnt_lead (by assumption) (by assumption) (by assumption)
    all_goals exact hQ2 _ ⟨by assumption, by first | (intro _; exact Classical.byContradiction fun q => absurd (bne_iff_ne.mpr q) (by simp only [*]; decide)) | (intro q; simp_all)⟩
  rintro ⟨h1x, hz⟩ tk3
  k_steps
  walk_at "mine for"
  unfold Hold
  (rename Fr _ _ _ _ => lF'); (rename News _ _ _ _ => lN')
  refine loop_text (σ := Unit) (fun _ => []) (fun _ => []) [] (fun i _ => ((x.cps.toList.take i).all fun (k : Nat) => isDigit k) = true) () rfl lF' lN' (fun _ h => nomatch h) rfl ?_ ?_
  · intro i k t c u h tk own hkk hI ho F1 N1
    clear lF' lN'
    k_steps
    · walk_at "mine thrown"
      exact fun _ _ _ => cnt_bad hkk (lt_zero (by assumption))
    · walk_at "mine thrown"
      exact fun _ _ _ => cnt_bad hkk (gt_nine (by assumption))
    · refine TurnK.next () (by assumption) (by assumption) (by walk_at "mine in") (fun _ h => nomatch h) ?_ (fun _ h => nomatch h) (by walk_at "mine same")
      exact all_step hI hkk (is_dig (by assumption) (by assumption))
  · intro c u h tk hI F1 N1
    clear lF' lN'
    (try dsimp only)
    k_steps
    walk_at "mine for"
    unfold Hold
    (rename Fr _ _ _ _ => lF'); (rename News _ _ _ _ => lN')
    refine loop_range (σ := Int × Tok) (n := 1) (fun _ => []) (fun c => [(Str.ofString "value", .int c.1 c.2)]) [Str.ofString "piece"] (fun i c => (i = 0 → c.1 = 0) ∧ (i = 1 → some c.1 = cntS x)) (0, _) rfl (by assumption) ?_ ?_ lF' lN' (List.forall_mem_cons.mpr ⟨by rfl, fun _ h => nomatch h⟩) ⟨fun _ => rfl, fun h => nomatch h⟩ ?_ ?_
    · exact range18 hx
    · exact range18_size h1x hx
    · have hpi := piece_int hx h1x hI
      rintro i t ⟨c, ct⟩ u h tk own hi hI ho F1 N1
      clear lF' lN'
      obtain rfl : i = 0 := by walk_at "mine om"
      obtain rfl : c = 0 := hI.1 rfl
      k_steps
      refine TurnK.next (σ := Int × Tok) (_, _) (by assumption) (by assumption) (by walk_at "mine in") (fun _ h => nomatch h) ?_ (List.forall_mem_cons.mpr ⟨by rfl, fun _ h => nomatch h⟩) (by walk_at "mine same")
      refine ⟨fun q => absurd q (by walk_at "mine om"), fun _ => ?_⟩
      rw [cnt_some h1x hz (by assumption)]
      simp
    · rintro ⟨c, ct⟩ u h tk hI1 F1 N1
      have hc := hI1.2 rfl
      clear lF' lN'
      (try dsimp only)
      k_steps
      exact ret_pure hret (by assumption) (by assumption) ⟨c, ct, hc.symm, rfl⟩
theorem off_Item : True := by
  w_top off
  trivial
section
variable {w : World} {A : Around} {E : Value → Shared → Prop} {s : Shared} {h₀ : Heap} {L : Addr} {news : List (Addr × Obj)} {value slice : PySem.Expr} {p : Addr} {its : Array Value} {n : Nat} {k : Int} {u : Tok} {x : Value} {Q : Value → Shared → Prop}
theorem sub_tup (ht : IsTup s.heap p its) (h0 : 0 ≤ k) (hk : k < 2 ^ 63) (hx : its[k.toNat]? = some x) (h : Q x s)
    (hs : subscripted slice false (.ref p) (.int k u) = operate [.ref p, .int k u] (getItem (.ref p) (.int k u)) := by with_unfolding_all rfl) :
    wpAny (model PG w) A (subscriptTail value slice (.ref p) (.int k u)) Q E s :=
  tail_any ht.typeIs slot_tuple_getitem.lookup (getItem_tuple ht (by walk_at "mine om") hk (StrLaws.seqIndex_nonneg h0 ((Int.toNat_lt h0).mp (Array.getElem?_eq_some_iff.mp hx).1)) hx h) hs
theorem sub_list (N : News h₀ L s.heap news) (hl : (p, listOf its n) ∈ news) (h0 : 0 ≤ k) (hk : k < 2 ^ 63) (hx : its[k.toNat]? = some x) (h : Q x s)
    (hs : subscripted slice false (.ref p) (.int k u) = operate [.ref p, .int k u] (getItem (.ref p) (.int k u)) := by with_unfolding_all rfl) :
    wpAny (model PG w) A (subscriptTail value slice (.ref p) (.int k u)) Q E s :=
  have hL : s.heap.IsList p its := ⟨_, N.get hl, rfl, n, rfl⟩
  tail_any hL.typeIs slot_list_getitem.lookup (wpAny_getItem_list hL h0 hk hx h) hs
end
theorem Keeps.tup {h h' : Heap} {as : List Addr} {p : Addr} {its : Array Value} (k : Keeps h h' as) (x : IsTup h p its) (n : p ∉ as) : IsTup h' p its := by obtain ⟨o, ho, r⟩ := x; exact ⟨o, k _ _ ho n, r⟩
theorem Keeps.tup0 {h h' : Heap} {p : Addr} {its : Array Value} (k : Keeps h h' []) (x : IsTup h p its) : IsTup h' p its := k.tup x (by first | walk_at "mine mem1" | simp)
theorem isTup_of {h : Heap} {p : Addr} {its : Array Value} (x : h.get? p = some { cls := .type "tuple", data := .seq its }) : IsTup h p its := ⟨_, x, rfl, _, rfl⟩
noncomputable def Led (h h' : Heap) (mu new : List (Addr × Obj)) : Prop := ∀ p ∈ new, h'.get? p.1 = some p.2 ∧ (h.get? p.1 = none ∨ p.1 ∈ mu.map (·.1))
section
variable {h₀ h h' g base : Heap} {L L' : Addr} {m m' : Str → Option Value} {mu new news newI muI R : List (Addr × Obj)}
theorem led_of (HG : Keeps h g (mu.map (·.1))) (N : News g L' h' new) : Led h h' mu new := fun p hp => by
  refine ⟨(N p hp).1, ?_⟩
  cases q : h.get? p.1 with
  | none => exact .inl rfl
  | some o =>
    by_cases hm : p.1 ∈ mu.map (·.1)
    · exact .inr hm
    · have := HG _ _ q hm
      rw [(N p hp).2.2] at this; cases this
theorem Led.toN (x : Led h h' mu new) (F : Fr h₀ L h m) (N : News h₀ L h mu) : News h₀ L h' new := fun p hp => by
  obtain ⟨g1, g2⟩ := x p hp
  refine ⟨g1, ?_⟩
  rcases g2 with g2 | g2
  · constructor
    · intro e
      refine let_goal ?_
      intro gl_P
      obtain ⟨oL, _, _, hL, _⟩ := F.ns
      dsimp only [gl_P]
      clear gl_P
      rw [e, hL] at g2; cases g2
    · cases q : h₀.get? p.1 with
      | none => rfl
      | some o => have := F.keep _ _ q; rw [g2] at this; cases this
  · obtain ⟨q, hq, e⟩ := List.mem_map.mp g2
    rw [← e]; exact (N q hq).2
noncomputable abbrev OffR (R new : List (Addr × Obj)) : Prop := ∀ q ∈ R, ∀ p ∈ new, @Ne Nat p.1 q.1
theorem Led.both (x : Led h h' mu new) (F : Fr h₀ L h m) (N : News h₀ L h (R ++ mu)) (k : Keeps h h' (mu.map (·.1))) (off : ∀ q ∈ R, ∀ p ∈ mu, p.1 ≠ q.1) : News h₀ L h' (R ++ new) ∧ OffR R new := by
  have nR : ∀ q ∈ R, q.1 ∉ mu.map (·.1) := fun q hq z => by
    obtain ⟨p, hp, e⟩ := List.mem_map.mp z
    exact off q hq p hp e
  constructor
  · intro p hp
    rcases List.mem_append.mp hp with hp | hp
    · have z := N p (List.mem_append.mpr (.inl hp))
      exact ⟨k _ _ z.1 (nR p hp), z.2⟩
    · exact x.toN F (fun p hp => N p (List.mem_append.mpr (.inr hp))) p hp
  · intro q hq p hp e
    have z := (N q (List.mem_append.mpr (.inl hq))).1
    rcases (x p hp).2 with w | w
    · rw [show p.1 = q.1 from e, z] at w; cases w
    · rw [show p.1 = q.1 from e] at w; exact nR q hq w
theorem Led.self (N : ∀ p ∈ mu, h'.get? p.1 = some p.2) : Led h h' mu mu := fun p hp => ⟨N p hp, .inr (List.mem_map_of_mem hp)⟩
theorem led_thrown {Bh : Heap} (HG : Keeps h g (mu.map (·.1))) (N : News g L' h' news) (hn : ∀ p ∈ new, p ∈ news) (hB : ∀ p ∈ news, Bh.get? p.1 = some p.2) : Led h Bh mu new := fun p hp => by
  refine ⟨hB p (hn p hp), ?_⟩
  exact (led_of HG N p (hn p hp)).2
theorem led_frames {A : Around} {outer : List Env} {name : Str} {scope : Scope} {fa : Addr} {cd : Value} (B' : Below A base outer g) (N : News g L' h' news) :
    ∀ p ∈ news, p.1 ∉ (envOf name scope L' fa cd :: outer).filterMap (·.frame) := fun p hp q => by
  rcases kts_mem q with z | z
  · exact (N p hp).2.1 z
  · obtain ⟨_, o, ho, _⟩ := B'.frames.mem z
    rw [(N p hp).2.2] at ho; cases ho
theorem led_up {Bh : Heap} (HG : Keeps h g (mu.map (·.1))) (F' : Fr g L' h' m') (N : News g L' h' news) (hm : ∀ p ∈ muI, p ∈ news) (x : Led h' Bh muI newI) : Led h Bh mu newI := fun p hp => by
  obtain ⟨g1, g2⟩ := x p hp
  refine ⟨g1, ?_⟩
  rcases g2 with g2 | g2
  · cases q : h.get? p.1 with
    | none => exact .inl rfl
    | some o =>
      by_cases hm : p.1 ∈ mu.map (·.1)
      · exact .inr hm
      · have := F'.keep _ _ (HG _ _ q hm)
        rw [g2] at this; cases this
  · obtain ⟨q, hq, e⟩ := List.mem_map.mp g2
    have := led_of HG N q (hm q hq)
    rw [← e]; exact this.2
end
theorem AllLt.off : ∀ {l : List (Addr × Obj)} {D : Nat}, AllLt D l → ∀ p ∈ l, p.1 ≠ D := by
  intro l D
  induction l with
  | nil => exact fun _ => List.forall_mem_nil _
  | cons x l ih => exact fun h => List.forall_mem_cons.mpr ⟨Nat.ne_of_lt h.1, ih h.2⟩
theorem off_SymB : True := by
  w_top off
  trivial
section
structure SymSt where
  texts : List Str
  funs : List (Int × Int)
noncomputable def SymSt.le (a b : SymSt) : Prop := a.texts <+: b.texts ∧ a.funs <+: b.funs
theorem SymSt.le_refl (a : SymSt) : a.le a := ⟨List.prefix_refl _, List.prefix_refl _⟩
theorem SymSt.le_trans {a b c : SymSt} (x : a.le b) (y : b.le c) : a.le c := ⟨x.1.trans y.1, x.2.trans y.2⟩
noncomputable abbrev atomD (l : List Str) : List (PyData × PyData) := l.zipIdx.map fun p => (PyData.str p.1, PyData.int p.2)
structure SymA where
  s : Addr
  d : Addr
  a1 : Addr
  a2 : Addr
  a3 : Addr
  a4 : Addr
  k1 : Tok
  k2 : Tok
  k3 : Tok
  k4 : Tok
noncomputable abbrev SymA.l (a : SymA) : List Addr := [a.s, a.d, a.a1, a.a2, a.a3, a.a4]
noncomputable abbrev symE (w : World) (a1 a2 a3 a4 : Addr) (k1 k2 k3 k4 : Tok) : List DictEntry :=
  [⟨PyData.keyHash w.params (Str.ofString "texts"), .str (Str.ofString "texts") k1, .ref a1⟩, ⟨PyData.keyHash w.params (Str.ofString "atom_numbers"), .str (Str.ofString "atom_numbers") k2, .ref a2⟩,
   ⟨PyData.keyHash w.params (Str.ofString "functors"), .str (Str.ofString "functors") k3, .ref a3⟩, ⟨PyData.keyHash w.params (Str.ofString "functor_numbers"), .str (Str.ofString "functor_numbers") k4, .ref a4⟩]
noncomputable abbrev symI (a : SymA) : Addr × Obj := (a.s, instObj 155 a.d)
noncomputable abbrev symJ (w : World) (a : SymA) : Addr × Obj := (a.d, dictOf (symE w a.a1 a.a2 a.a3 a.a4 a.k1 a.k2 a.k3 a.k4) 4)
noncomputable abbrev symR (w : World) (a : SymA) (sy : List (Addr × Obj)) : List (Addr × Obj) := symI a :: symJ w a :: sy
noncomputable abbrev keyObj (i j : Int) (t1 t2 : Tok) : Obj := { cls := .type "tuple", data := .seq #[.int i t1, .int j t2] }
noncomputable def FunD (w : World) (o4 : Obj) (funs : List (Int × Int)) (fz : List (Addr × Obj)) : Prop :=
  ∃ (es : Array DictEntry) (ep : Nat) (xs : List (List Int × Addr × Value)), o4.ExactDict ∧ o4.data = .dict es ep ∧ es.toList = xs.map (entryOfKey (tupleKind (intKind PG w))) ∧ (∀ x ∈ xs, ∃ i j t1 t2, x.1 = [i, j] ∧ (x.2.1, keyObj i j t1 t2) ∈ fz) ∧
    xs.map (·.1) = funs.map (fun f => [f.1, f.2]) ∧ (∀ (i : Nat) x, xs[i]? = some x → ∃ t, x.2.2 = .int (i : Int) t)
noncomputable def FunL (vs : Array Value) (funs : List (Int × Int)) (fz : List (Addr × Obj)) : Prop :=
  vs.size = funs.length ∧ ∀ (i : Nat) (f : Int × Int), funs[i]? = some f → ∃ p t1 t2, vs[i]? = some (.ref p) ∧ (p, keyObj f.1 f.2 t1 t2) ∈ fz
structure SymO (w : World) (a : SymA) (st : SymSt) (c : Nat) (o1 o2 o3 o4 : Obj) (fz : List (Addr × Obj)) : Prop where
  low2 : (a.a2 == sysModules) = false
  low4 : (a.a4 == sysModules) = false
  nod : a.l.Nodup
  off : OwnOff fz a.l
  texts : ∃ (vs : Array Value) (n : Nat), o1 = listOf vs n ∧ StrsAre vs.toList st.texts
  atoms : ∃ kvs, o2.IsDictOf (strKind PG w) kvs ∧ PyProof.V.FlatPairs PyData.str kvs (atomD st.texts)
  funs : ∃ (vs : Array Value) (n : Nat), o3 = listOf vs n ∧ FunL vs st.funs fz
  nums : FunD w o4 st.funs fz
  nodT : st.texts.Nodup
  nodF : st.funs.Nodup
  lenT : st.texts.length ≤ c
  lenF : st.funs.length ≤ c
noncomputable def SyP (w : World) (a : SymA) (st : SymSt) (c : Nat) (sy : List (Addr × Obj)) : Prop :=
  ∃ o1 o2 o3 o4 fz, sy = (a.a1, o1) :: (a.a2, o2) :: (a.a3, o3) :: (a.a4, o4) :: fz ∧ SymO w a st c o1 o2 o3 o4 fz
end
section
open PyProof.V
theorem find_text (x : Str) (l : List Str) (n : Nat) :
    (x ∉ l ∧ PySem.Spec.lookup (.str x) ((l.zipIdx n).map fun p => (PyData.str p.1, PyData.int p.2)) = none) ∨
    (∃ i : Nat, l[i]? = some x ∧ PySem.Spec.lookup (.str x) ((l.zipIdx n).map fun p => (PyData.str p.1, PyData.int p.2)) = some (.int ((n + i : Nat) : Int))) := by
  induction l generalizing n with
  | nil => exact .inl ⟨by simp, rfl⟩
  | cons y r ih =>
    by_cases e : y = x
    · subst e
      exact .inr ⟨0, by simp, by simp [List.zipIdx_cons, PySem.Spec.lookup, PyProof.V.same_str]⟩
    · rcases ih (n + 1) with ⟨h1, h2⟩ | ⟨i, h1, h2⟩
      · exact .inl ⟨by simp [h1, Ne.symm e], by simpa [List.zipIdx_cons, PySem.Spec.lookup, PyProof.V.same_str, e] using h2⟩
      · refine .inr ⟨i + 1, by simpa using h1, ?_⟩
        have : n + 1 + i = n + (i + 1) := by walk_at "mine om"
        rw [this] at h2
        simpa [List.zipIdx_cons, PySem.Spec.lookup, PyProof.V.same_str, e] using h2
theorem find_atom {x : Str} {l : List Str} {v : Value} (h : Flat v ((PySem.Spec.lookup (.str x) (atomD l)).getD (.int (-1)))) :
    (x ∉ l ∧ PySem.Spec.lookup (.str x) (atomD l) = none ∧ ∃ t, v = .int (-1) t) ∨ ∃ (i : Nat) (t : Tok), l[i]? = some x ∧ v = .int i t := by
  rcases find_text x l 0 with ⟨h1, h2⟩ | ⟨i, h1, h2⟩
  · rw [h2] at h; exact .inl ⟨h1, h2, Flat.int_inv h⟩
  · rw [h2] at h; obtain ⟨t, e⟩ := Flat.int_inv h; exact .inr ⟨i, t, h1, by simpa using e⟩
theorem put_atom {x : Str} {l : List Str} (h : PySem.Spec.lookup (.str x) (atomD l) = none) : putD (.str x) (.int (l.length : Int)) (atomD l) = atomD (l ++ [x]) := by
  rw [putD_absent h]; simp [atomD, List.zipIdx_append]
end
theorem ne_hd {x y : Nat} {l : List Nat} (h : (x :: l).Nodup) (m : y ∈ l) : x ≠ y := fun e => (List.nodup_cons.mp h).1 (e ▸ m)
theorem nd_tl {x : Nat} {l : List Nat} (h : (x :: l).Nodup) : l.Nodup := (List.nodup_cons.mp h).2
theorem notin_cons {x p : Nat} {l : List Nat} (h : x < p) (n : p ∉ l) : p ∉ x :: l := fun q => (List.mem_cons.mp q).elim (Nat.ne_of_gt h) n
theorem notin6 {a b c d e f p : Nat} (h : a < p ∧ b < p ∧ c < p ∧ d < p ∧ e < p ∧ f < p) : p ∉ [a, b, c, d, e, f] :=
  notin_cons h.1 (notin_cons h.2.1 (notin_cons h.2.2.1 (notin_cons h.2.2.2.1 (notin_cons h.2.2.2.2.1 (notin_cons h.2.2.2.2.2 List.not_mem_nil)))))
section
variable {w : World} {h h' : Heap} {a : SymA} {st : SymSt} {c c' : Nat} {o1 o2 o3 o4 o4' : Obj} {fz : List (Addr × Obj)} {funs : List (Int × Int)} {p : Addr} {i j : Int} {t t1 t2 : Tok}
theorem SymO.more (hc : c ≤ c') (x : SymO w a st c o1 o2 o3 o4 fz) : SymO w a st c' o1 o2 o3 o4 fz :=
  { x with lenT := Nat.le_trans x.lenT hc, lenF := Nat.le_trans x.lenF hc }
theorem SyP.more {sy : List (Addr × Obj)} (hc : c ≤ c') (x : SyP w a st c sy) : SyP w a st c' sy := by obtain ⟨o1, o2, o3, o4, fz, e, o⟩ := x; exact ⟨o1, o2, o3, o4, fz, e, o.more hc⟩
theorem SymO.atom {x : Str} {t : Tok} {vs : Array Value} {n : Nat} {kvs : List (Str × Value)} {o2' : Obj} (P : SymO w a st c o1 o2 o3 o4 fz) (hT : StrsAre vs.toList st.texts) (hno : x ∉ st.texts)
    (hl : PySem.Spec.lookup (.str x) (atomD st.texts) = none) (hD : o2'.IsDictOf (strKind PG w) kvs) (hF : PyProof.V.FlatPairs PyData.str kvs (PyProof.V.putD (.str x) (.int (st.texts.length : Int)) (atomD st.texts))) :
    SymO w a ⟨st.texts ++ [x], st.funs⟩ (c + 1) (listOf (vs.push (.str x t)) (n + 1)) o2' o3 o4 fz where
  low2 := P.low2
  low4 := P.low4
  nod := P.nod
  off := P.off
  texts := ⟨_, _, rfl, by rw [Array.toList_push]; exact StrsAre.append' hT (.cons _ _ .nil)⟩
  atoms := ⟨kvs, hD, by rw [put_atom hl] at hF; exact hF⟩
  funs := P.funs
  nums := P.nums
  nodT := List.nodup_append.mpr ⟨P.nodT, by simp, fun y hy z hz => by simp only [List.mem_singleton] at hz; subst hz; exact fun e => hno (e ▸ hy)⟩
  nodF := P.nodF
  lenT := by have := P.lenT; simp; walk_at "mine om"
  lenF := Nat.le_succ_of_le P.lenF
theorem nodup_keys (n : funs.Nodup) : (funs.map fun f => [f.1, f.2]).Nodup := by
  refine List.Pairwise.map _ (fun a b hab e => hab ?_) n
  simp only [List.cons.injEq, and_true] at e
  exact Prod.ext e.1 e.2
theorem fun_at {xs : List (List Int × Addr × Value)} (e : xs.map (·.1) = funs.map (fun f => [f.1, f.2])) (hv : ∀ (i : Nat) x, xs[i]? = some x → ∃ t, x.2.2 = .int (i : Int) t) (i j : Int) :
    ((i, j) ∉ funs ∧ atKey xs [i, j] = none) ∨ ∃ (n : Nat) (p : Addr) (t : Tok), funs[n]? = some (i, j) ∧ atKey xs [i, j] = some (p, .int (n : Int) t) := by
  cases q : xs.find? fun x => decide (x.1 = [i, j]) with
  | none =>
    refine .inl ⟨fun hm => ?_, by simp [atKey, q]⟩
    have : [i, j] ∈ xs.map (·.1) := by rw [e]; exact List.mem_map.mpr ⟨(i, j), hm, rfl⟩
    obtain ⟨x, hx, e'⟩ := List.mem_map.mp this
    exact absurd (List.find?_eq_none.mp q x hx) (by simp [e'])
  | some x =>
    have hx := List.mem_of_find?_eq_some q
    have hk : x.1 = [i, j] := by simpa using List.find?_some q
    obtain ⟨n, hn⟩ := List.getElem?_of_mem hx
    obtain ⟨t, ht⟩ := hv n x hn
    refine .inr ⟨n, x.2.1, t, ?_, by simp [atKey, q, ← ht]⟩
    have h1 : (xs.map (·.1))[n]? = some [i, j] := by rw [List.getElem?_map, hn]; simp [hk]
    rw [e, List.getElem?_map] at h1
    obtain ⟨f, hf, e'⟩ := Option.map_eq_some_iff.mp h1
    simp only [List.cons.injEq, and_true] at e'
    rw [hf]; congr 1; exact Prod.ext e'.1 e'.2
theorem tupKey_of (g : h.get? p = some (keyObj i j t1 t2)) : IsTupleKey (intKind PG w) h [i, j] p := ⟨_, _, _, g, rfl, rfl, .cons (by simp [intKind, Value.isInt]) (.cons (by simp [intKind, Value.isInt]) .nil)⟩
theorem FunD.dict {a4 : Addr} {news : List (Addr × Obj)} {h₀ : Heap} {L : Addr} (x : FunD w o4 funs fz) (N : News h₀ L h news) (g : (a4, o4) ∈ news) (hz : ∀ q ∈ fz, q ∈ news) (n : funs.Nodup) : ∃ xs, h.DictOfH (tupleKind (intKind PG w)) a4 xs ∧ xs.map (·.1) = funs.map (fun f => [f.1, f.2]) ∧ (∀ x ∈ xs, ∃ i j t1 t2, x.1 = [i, j] ∧ (x.2.1, keyObj i j t1 t2) ∈ fz) ∧ ∀ (i : Nat) x, xs[i]? = some x → ∃ t, x.2.2 = .int (i : Int) t := by
  obtain ⟨es, ep, xs, e1, e2, e3, e4, e5, e6⟩ := x
  exact ⟨xs, ⟨o4, es, ep, N.get g, e1, e2, e3, fun y hy => by
    refine let_goal ?_
    intro gl_P
    obtain ⟨i, j, t1, t2, e, m⟩ := e4 y hy
    dsimp only [gl_P]
    clear gl_P
    rw [e]; exact tupKey_of (N.get (hz _ m)), by rw [e5]; exact nodup_keys n⟩, e5, e4, e6⟩
theorem FunL.push {vs : Array Value} (x : FunL vs funs fz) : FunL (vs.push (.ref p)) (funs ++ [(i, j)]) ((p, keyObj i j t1 t2) :: fz) := by
  refine ⟨by simp [x.1], fun k f hf => ?_⟩
  have hs := x.1
  rcases Nat.lt_or_ge k funs.length with q | q
  · rw [List.getElem?_append_left q] at hf
    refine let_goal ?_
    intro gl_P
    obtain ⟨p, t1, t2, hv, hm⟩ := x.2 k f hf
    dsimp only [gl_P]
    clear gl_P
    exact ⟨p, t1, t2, by rw [Array.getElem?_push_lt (by walk_at "mine om")]; rw [Array.getElem?_eq_getElem (by walk_at "mine om")] at hv; exact hv, .tail _ hm⟩
  · rw [List.getElem?_append_right q] at hf
    have : k = funs.length := by
      rcases Nat.eq_zero_or_pos (k - funs.length) with r | r
      · walk_at "mine om"
      · rw [List.getElem?_eq_none r] at hf; cases hf
    subst this
    simp only [Nat.sub_self, List.getElem?_cons_zero, Option.some.injEq] at hf
    subst hf
    exact ⟨p, t1, t2, by rw [← hs]; simp, .head _⟩
theorem SymO.func {vs : Array Value} {n : Nat} (P : SymO w a st c o1 o2 (listOf vs n) o4 fz) (hL : FunL vs st.funs fz) (hno : (i, j) ∉ st.funs) (hp : p ∉ a.l) (X : FunD w o4' (st.funs ++ [(i, j)]) ((p, keyObj i j t1 t2) :: fz)) :
    SymO w a ⟨st.texts, st.funs ++ [(i, j)]⟩ (c + 1) o1 o2 (listOf (vs.push (.ref p)) (n + 1)) o4' ((p, keyObj i j t1 t2) :: fz) where
  low2 := P.low2
  low4 := P.low4
  nod := P.nod
  off := fun q hq b hb => by
    rcases List.mem_cons.mp hq with rfl | hq
    · exact fun e => hp (by have e' : p = b := e; rw [e']; exact hb)
    · exact P.off q hq b hb
  texts := P.texts
  atoms := P.atoms
  funs := ⟨_, _, rfl, hL.push⟩
  nums := X
  nodT := P.nodT
  nodF := List.nodup_append.mpr ⟨P.nodF, by simp, fun y hy z hz => by simp only [List.mem_singleton] at hz; subst hz; exact fun e => hno (e ▸ hy)⟩
  lenT := Nat.le_succ_of_le P.lenT
  lenF := by have := P.lenF; simp; walk_at "mine om"
end
theorem idx_int {α : Type} {l : List α} {i : Nat} {x : α} (h : l[i]? = some x) : l[((i : Int)).toNat]? = some x := by simpa using h
theorem getD_of {α : Type} {l : List α} {i : Nat} {x e : α} (h : l[i]? = some x) : l.getD ((i : Int)).toNat e = x := by simp [h]
theorem keeps_of {h g h' : Heap} {as : List Addr} {L' : Addr} {m' : Str → Option Value} (HG : Keeps h g as) (F' : Fr g L' h' m') : Keeps h h' as := fun b o e n => F'.keep b o (HG b o e n)
section
variable {w : World} {A : Around} {E : Value → Shared → Prop} {s : Shared} {o4 : Obj} {funs : List (Int × Int)} {a4 p : Addr} {i j : Int} {t1 t2 : Tok} {h₀ : Heap} {L : Addr} {news pre fz : List (Addr × Obj)} {m : Str → Option Value}
theorem getMethod_fun {pl : Sem Bool} {Q : Value × List Value → Shared → Prop} (N : News h₀ L s.heap news) (hm : (a4, o4) ∈ news) (hz : ∀ q ∈ fz, q ∈ news) (X : FunD w o4 funs fz) (n : funs.Nodup)
    (h : Q (.builtin "dict.get", [.ref a4]) s) : wpAny (model PG w) A (getMethod (.ref a4) (Str.ofString "get") pl) Q E s := by
  obtain ⟨xs, hd, _⟩ := X.dict N hm hz n
  exact getMethod_builtin hd.typeIs PySem.F.plainAttrs_dict PySem.F.slot_dict_get PySem.F.type_dict_get (dictOfH_noDict hd) h
theorem get_fun {u : Tok} {Q : Value → Shared → Prop} (N : News h₀ L s.heap news) (hm : (a4, o4) ∈ news) (hz : ∀ q ∈ fz, q ∈ news) (hk : (p, keyObj i j t1 t2) ∈ news) (X : FunD w o4 funs fz) (n : funs.Nodup) (low : (a4 == sysModules) = false) (hu : A.units + 1 < cLine)
    (h1 : (i, j) ∉ funs → Q (.int (-1) u) { s with toks := s.toks + 3 }) (h2 : ∀ (n : Nat) (t : Tok), funs[n]? = some (i, j) → Q (.int (n : Int) t) { s with toks := s.toks + 3 }) :
    wpAny (model PG w) A (call (.builtin "dict.get") [.ref a4, .ref p, .int (-1) u]) Q E s := by
  refine let_goal ?_
  intro gl_P
  obtain ⟨xs, hd, e5, _, e6⟩ := X.dict N hm hz n
  dsimp only [gl_P]
  clear gl_P
  refine call_meetsIn PySem.F.slot_dict_get hd.typeIs PySem.F.entry_dict_get (PySem.F.args_dict_get_3 _ _ _) (meetsH_dict_get_default (tupleKind (intKind PG w)) a4 p low (.int (-1) u)) ⟨tupleKind_room_in1 hu, [i, j], xs, tupKey_of (N.get hk), hd, ?_⟩
  rcases fun_at e5 e6 i j with ⟨q1, q2⟩ | ⟨n, p', t, q1, q2⟩
  · rw [q2]; exact h1 q1
  · rw [q2]; exact h2 n t q1
theorem set_fun {u : Tok} {Q : Unit → Shared → Prop} (F : Fr h₀ L s.heap m) (N : News h₀ L s.heap (pre ++ (a4, o4) :: fz)) (hpre : ∀ q ∈ pre, q.1 ≠ a4) (hfz : ∀ q ∈ fz, q.1 ≠ a4) (hk : (p, keyObj i j t1 t2) ∈ pre) (X : FunD w o4 funs fz) (n : funs.Nodup) (hno : (i, j) ∉ funs) (hu : A.units + 1 < cLine) (hz : funs.length ≤ 10000)
    (h : ∀ h' o4', Fr h₀ L h' m → News h₀ L h' (pre ++ (a4, o4') :: fz) → FunD w o4' (funs ++ [(i, j)]) ((p, keyObj i j t1 t2) :: fz) → Q () { s with heap := h', toks := s.toks + 3 }) :
    wpAny (model PG w) A (setItem (.ref a4) (.ref p) (.int (funs.length : Int) u)) Q E s := by
  have hm : (a4, o4) ∈ pre ++ (a4, o4) :: fz := by simp
  refine let_goal ?_
  intro gl_P
  obtain ⟨xs, hd, e5, e4, e6⟩ := X.dict N hm (fun q hq => by first | walk_at "mine mem1" | simp [hq]) n
  dsimp only [gl_P]
  clear gl_P
  have hl : xs.length = funs.length := by have := congrArg List.length e5; simpa using this
  have hz' : xs.length ≤ sizeLine := by rw [hl]; exact Nat.le_trans hz (by decide)
  refine wpAny_setItem_heap (hsz := hz') (knd := tupleKind (intKind PG w)) (tupleKind_room_in1 hu) (tupKey_of (N.get (List.mem_append.mpr (.inl hk)))) hd fun h' hm' hs => ?_
  refine let_goal ?_
  intro gl_P
  obtain ⟨o', es', ep', ho', hc', hd', he', hi', hn'⟩ := hm'
  dsimp only [gl_P]
  clear gl_P
  have hnone : atKey xs [i, j] = none := by
    rcases fun_at e5 e6 i j with ⟨_, q⟩ | ⟨n, p', t, q1, _⟩
    · exact q
    · exact absurd (List.mem_of_getElem? q1) hno
  have hst : storedH xs [i, j] p (.int (funs.length : Int) u) = xs ++ [([i, j], p, .int (funs.length : Int) u)] := storedH_new hnone _ _
  rw [hst] at he' hi' hn'
  refine h h' o' (F.change hs (N _ hm).2.1 (N.fresh hm)) (news_set N hpre hfz hs ho') ⟨es', ep', _, hc', hd', he', fun y hy => ?_, ?_, ?_⟩
  · rcases List.mem_append.mp hy with hy | hy
    · obtain ⟨i', j', u1, u2, e, m⟩ := e4 y hy
      exact ⟨i', j', u1, u2, e, .tail _ m⟩
    · simp only [List.mem_singleton] at hy; subst hy; exact ⟨i, j, t1, t2, rfl, .head _⟩
  · simp [e5]
  · intro k x hx
    by_cases hk' : k < xs.length
    · rw [List.getElem?_append_left hk'] at hx; exact e6 k x hx
    · rw [List.getElem?_append_right (by walk_at "mine om")] at hx
      have : k - xs.length = 0 := by
        rcases Nat.eq_zero_or_pos (k - xs.length) with q | q
        · exact q
        · rw [List.getElem?_eq_none q] at hx; cases hx
      rw [this] at hx
      simp only [List.getElem?_cons_zero, Option.some.injEq] at hx
      subst hx
      exact ⟨u, by simp; walk_at "mine om"⟩
end
noncomputable def SyPost (w : World) (a : SymA) (c : Nat) (sy : List (Addr × Obj)) (R : Value → SymSt → Prop) : Heap → Heap → Value → Prop := fun h h' v =>
  ∃ st' sy', R v st' ∧ SyP w a st' c sy' ∧ Led h h' (symR w a sy) (symR w a sy')
noncomputable abbrev SyPre (w : World) (a : SymA) (st : SymSt) (c : Nat) (sy : List (Addr × Obj)) : Heap → Prop := fun _ => SyP w a st c sy ∧ c < 10000
noncomputable abbrev AtomV (st : SymSt) (x : Str) (v : Value) (st' : SymSt) : Prop := ∃ (i : Nat) (t : Tok), v = .int (i : Int) t ∧ st'.texts[i]? = some x ∧ st.le st' ∧ st'.funs = st.funs
noncomputable abbrev FunV (st : SymSt) (f : Int × Int) (v : Value) (st' : SymSt) : Prop := ∃ (i : Nat) (t : Tok), v = .int (i : Int) t ∧ st'.funs[i]? = some f ∧ st.le st' ∧ st'.texts = st.texts
noncomputable abbrev StrV (st : SymSt) (x : Str) (v : Value) (st' : SymSt) : Prop := (∃ t, v = .str x t) ∧ st' = st
noncomputable abbrev IntV (st : SymSt) (i : Int) (v : Value) (st' : SymSt) : Prop := (∃ t, v = .int i t) ∧ st' = st
section
variable {w : World} {h h' g : Heap} {a : SymA} {st : SymSt} {c : Nat} {o1 o2 o3 o4 o4' : Obj} {L' : Addr} {i j : Int} {t t1 t2 : Tok} {p : Addr} {vs : Array Value} {n : Nat} {fz sy : List (Addr × Obj)} {R : Value → SymSt → Prop} {v : Value} {st' : SymSt}
theorem SyPost.mk {o1' o2' o3' o4' : Obj} {fz' : List (Addr × Obj)} (HG : Keeps h g ((symR w a sy).map (·.1))) (N : News g L' h' ((a.s, instObj 155 a.d) :: symJ w a :: (a.a1, o1') :: (a.a2, o2') :: (a.a3, o3') :: (a.a4, o4') :: fz')) (O : SymO w a st' c o1' o2' o3' o4' fz') (hR : R v st') : SyPost w a c sy R h h' v :=
  ⟨st', _, hR, ⟨_, _, _, _, _, rfl, O⟩, led_of HG N⟩
theorem SyPost.mkF {o1' o2' o3' o4' : Obj} {fz' : List (Addr × Obj)} (HG : Keeps h g ((symR w a sy).map (·.1))) (N : News g L' h' ((p, keyObj i j t1 t2) :: (a.s, instObj 155 a.d) :: symJ w a :: (a.a1, o1') :: (a.a2, o2') :: (a.a3, o3') :: (a.a4, o4') :: fz')) (O : SymO w a st' c o1' o2' o3' o4' ((p, keyObj i j t1 t2) :: fz')) (hR : R v st') : SyPost w a c sy R h h' v :=
  ⟨st', _, hR, ⟨_, _, _, _, _, rfl, O⟩, led_of HG fun q hq => N q (by
    simp only [symR, List.mem_cons] at hq ⊢
    rcases hq with e | e | e | e | e | e | e | e
    · exact .inr (.inl e)
    · exact .inr (.inr (.inl e))
    · exact .inr (.inr (.inr (.inl e)))
    · exact .inr (.inr (.inr (.inr (.inl e))))
    · exact .inr (.inr (.inr (.inr (.inr (.inl e)))))
    · exact .inr (.inr (.inr (.inr (.inr (.inr (.inl e))))))
    · exact .inl e
    · exact .inr (.inr (.inr (.inr (.inr (.inr (.inr e)))))))⟩
end
theorem news_tl {h₀ h : Heap} {L : Addr} {x : Addr × Obj} {r : List (Addr × Obj)} (N : News h₀ L h (x :: r)) : News h₀ L h r := fun p hp => N p (List.mem_cons_of_mem _ hp)
theorem news_hd {h₀ h : Heap} {L : Addr} {x : Addr × Obj} {r : List (Addr × Obj)} (N : News h₀ L h (x :: r)) : h.get? x.1 = some x.2 := (N x (.head _)).1
theorem sy_open {w : World} {st : SymSt} {c : Nat} {C : SymA → List (Addr × Obj) → Prop}
    (k : ∀ (as ad a1 a2 a3 a4 : Addr) (k1 k2 k3 k4 : Tok) (vs : Array Value) (n : Nat) (o2 : Obj) (kvs : List (Str × Value)) (vs3 : Array Value) (m3 : Nat) (o4 : Obj) (fz : List (Addr × Obj)), c < 10000 →
      SymO w ⟨as, ad, a1, a2, a3, a4, k1, k2, k3, k4⟩ st c (listOf vs n) o2 (listOf vs3 m3) o4 fz → OwnOff fz [as, ad, a1, a2, a3, a4] → (a2 == sysModules) = false → (a4 == sysModules) = false →
      StrsAre vs.toList st.texts → o2.IsDictOf (strKind PG w) kvs → PyProof.V.FlatPairs PyData.str kvs (atomD st.texts) → vs3.size = st.funs.length → (∀ (i : Nat) (f : Int × Int), st.funs[i]? = some f → ∃ p t1 t2, vs3[i]? = some (.ref p) ∧ (p, keyObj f.1 f.2 t1 t2) ∈ fz) →
      st.texts.length ≤ c → st.funs.length ≤ c → FunD w o4 st.funs fz → st.funs.Nodup →
      @Ne Nat as ad → @Ne Nat as a1 → @Ne Nat as a2 → @Ne Nat as a3 → @Ne Nat as a4 → @Ne Nat ad a1 → @Ne Nat ad a2 → @Ne Nat ad a3 → @Ne Nat ad a4 → @Ne Nat a1 a2 → @Ne Nat a1 a3 → @Ne Nat a1 a4 → @Ne Nat a2 a3 → @Ne Nat a2 a4 → @Ne Nat a3 a4 →
      vs.toList.length = st.texts.length → vs.size ≤ 10000 → vs.size ≤ sizeLine → vs3.size ≤ 10000 → vs3.size ≤ sizeLine →
      C ⟨as, ad, a1, a2, a3, a4, k1, k2, k3, k4⟩ ((a1, listOf vs n) :: (a2, o2) :: (a3, listOf vs3 m3) :: (a4, o4) :: fz)) :
    ∀ a sy, SyP w a st c sy ∧ c < 10000 → C a sy := by
  rintro ⟨as, ad, a1, a2, a3, a4, k1, k2, k3, k4⟩ sy ⟨⟨o1, o2, o3, o4, fz, rfl, P⟩, hc⟩
  obtain ⟨vs, n, rfl, hT⟩ := P.texts
  obtain ⟨kvs, hD2, hF2⟩ := P.atoms
  obtain ⟨vs3, m3, rfl, hs3, hf3⟩ := P.funs
  have N1 : [as, ad, a1, a2, a3, a4].Nodup := P.nod
  have N2 := nd_tl N1
  have N3 := nd_tl N2
  have N4 := nd_tl N3
  have N5 := nd_tl N4
  have lT := P.lenT
  have lF := P.lenF
  have hsz : vs.toList.length = st.texts.length := hT.length
  have hc' : c ≤ 10000 := Nat.le_of_lt hc
  have hsz1 : vs.size ≤ 10000 := Nat.le_trans (Nat.le_of_eq hsz) (Nat.le_trans lT hc')
  have hsz3 : vs3.size ≤ 10000 := Nat.le_trans (Nat.le_of_eq hs3) (Nat.le_trans lF hc')
  exact k as ad a1 a2 a3 a4 k1 k2 k3 k4 vs n o2 kvs vs3 m3 o4 fz hc P P.off P.low2 P.low4 hT hD2 hF2 hs3 hf3 lT lF P.nums P.nodF (ne_hd N1 (.head _)) (ne_hd N1 (.tail _ (.head _))) (ne_hd N1 (.tail _ (.tail _ (.head _)))) (ne_hd N1 (.tail _ (.tail _ (.tail _ (.head _))))) (ne_hd N1 (.tail _ (.tail _ (.tail _ (.tail _ (.head _)))))) (ne_hd N2 (.head _)) (ne_hd N2 (.tail _ (.head _))) (ne_hd N2 (.tail _ (.tail _ (.head _)))) (ne_hd N2 (.tail _ (.tail _ (.tail _ (.head _))))) (ne_hd N3 (.head _)) (ne_hd N3 (.tail _ (.head _))) (ne_hd N3 (.tail _ (.tail _ (.head _)))) (ne_hd N4 (.head _)) (ne_hd N4 (.tail _ (.head _))) (ne_hd N5 (.head _)) hsz hsz1 (Nat.le_trans hsz1 (by decide)) hsz3 (Nat.le_trans hsz3 (by decide))
theorem Spec.pull {w : World} {mean : ExcName → Option Value} {mg mb : Str → Option Value} {f : Addr} {vs : List Value} {mu : List (Addr × Obj)} {dn un' : Nat} {pc : Prop} {post : Heap → Heap → Value → Prop} {exc : Heap → Heap → Prop}
    (h : pc → Spec w mean mg mb f vs mu dn un' (fun _ => pc) post exc) : Spec w mean mg mb f vs mu dn un' (fun _ => pc) post exc :=
  fun dp un gd cn cs a ccd cl outer A₀ base h₀ L m s Q E B F X N T hk hd hu hp => h hp dp un gd cn cs a ccd cl outer A₀ base h₀ L m s Q E B F X N T hk hd hu hp
theorem off_Join : True := by
  w_top off
  trivial
section
open PySem.Builtin PySem.Builtin.Str
theorem nolen_lri : typeLookup (.type "list_reverseiterator") "__len__" = pure none := by rw [typeLookup_type, builtinLookup_eq_fast]; kernel_rfl
theorem hint_lri : typeLookup (.type "list_reverseiterator") "__length_hint__" = pure (some (.builtin "list_reverseiterator.__length_hint__")) := by rw [typeLookup_type, builtinLookup_eq_fast]; kernel_rfl
variable {prog : Program} {w : World} {A : Around} {E : Value → Shared → Prop} {s : Shared} {I l : Addr} {fp wr : List Addr} {G : Array GenState → Array GenState → Prop} {n : Nat} {P : Nat → Value → Prop} {St : Nat → Shared → Prop}
theorem collect_rev {Q : List Value → Shared → Prop}
    (W : WalksS prog w A.in1 I fp wr G n P St) (hT : ∀ i s, St i s → s.TypeIs (.ref I) "list_reverseiterator") (hst : St 0 s) (hfp : ∀ b ∈ fp, b < s.heap.objs.size) (hI : I ∈ fp)
    (hQ : ∀ s' acc, Moved wr G s s' → ItemsOf P acc n → Q acc.toList s') (hn : n ≤ sizeLine) : wpAny (model prog w) A (collect (.ref I)) Q E s := by
  have hSf : s.heap.objs.size ∉ fp := fun hm => Nat.lt_irrefl _ (hfp _ hm)
  have hSI : s.heap.objs.size ≠ I := fun e => hSf (e ▸ hI)
  unfold collect
  refine wpAny_bind (wpAny_runValue (codeAny_builtin PySem.F.entry_proto_collect ?_))
  rw [Around.under_plainId PySem.F.plain_proto_collect _]
  show wpAny _ A.in1 (newList [] >>= fun l => again (.builtin "list.__iadd__" ⟨[l, .ref I], []⟩)) _ _ s
  refine wpAny_bind (wpAny_newObj_type ?_)
  refine wpAny_pure ⟨plainId_quiet PySem.F.plain_list_iadd _, codeAny_builtin PySem.F.entry_list_iadd ?_⟩
  rw [Around.under_plainId PySem.F.plain_list_iadd _]
  have hst₁ := W.frame 0 s (s.heap.push { cls := .type "list", data := .seq ([] : List Value).toArray }) s.toks hst (Nat.le_refl _) fun b _ o e => Heap.get?_push_of_some _ e
  have hS₁ : (s.heap.push { cls := .type "list", data := .seq ([] : List Value).toArray }).get? s.heap.objs.size = some { cls := .type "list", data := .seq ([] : List Value).toArray } := Heap.get?_push_size _ rfl
  have h1 : Builtin.List.listSameRef (.ref s.heap.objs.size) (.ref I) = false := by simp [Builtin.List.listSameRef, hSI]
  show wpAny _ A.in1 (Builtin.List.listExtendWith (.ref s.heap.objs.size) (.ref I) (.ref s.heap.objs.size)) _ _ _
  unfold Builtin.List.listExtendWith
  refine wpAny_bind (wpAny_typeOf (hT 0 _ hst₁) ?_)
  rw [if_neg (by rw [h1]; decide)]
  refine wpAny_bind (W.self 0 _ _ _ hst₁ ?_)
  refine wpAny_bind (wpAny_holding ?_)
  unfold Builtin.List.listLengthHint
  refine wpAny_bind (wpAny_specialOf (hT 0 _ hst₁) nolen_lri ?_)
  show wpAny _ A.in1 (specialOf (Value.ref I) (Str.ofString "__length_hint__") >>= _) _ _ _
  refine wpAny_bind (wpAny_specialOf (hT 0 _ hst₁) hint_lri ?_)
  (generalize hid : ("list_reverseiterator.__length_hint__" : String) = id0; (fail_if_success (clear hid id0)); wp_delta; rw [show splitId id0 = some ("list_reverseiterator", "__length_hint__") from by subst hid; decide +kernel]; subst hid)
  refine wpAny_bind (wpAny_isInstance (b := true) (hT 0 _ hst₁) (by rw [isSubtype_type]; kernel_rfl) ?_)
  refine wpAny_pure ?_
  rw [if_neg (by decide)]
  refine wpAny_pure ⟨plainId_quiet PySem.F.plain_extend_loop _, codeAny_extend_loopS W hn _ hSf _ n 0 _ _ _ rfl (Nat.zero_le _) hst₁ hS₁ (ItemsOf.nil P) fun s' acc' c' hm hS' hacc => ?_⟩
  show wpAny _ A (load s.heap.objs.size >>= _) _ _ s'
  refine wpAny_bind (wpAny_load hS' ?_)
  exact wpAny_pure (hQ s' acc' (Moved.drop_new (o := { cls := .type "list", data := .seq ([] : List Value).toArray }) (tk := s.toks) hm (Nat.le_refl _)) hacc)
end
theorem strsAre_ext : ∀ {vs vs' : List Value} {ys : List Str}, vs.length = vs'.length → (∀ i : Nat, vs[i]? = vs'[i]?) → StrsAre vs' ys → StrsAre vs ys
  | vs, vs', ys, _, h, x => by
    have : vs = vs' := List.ext_getElem? h
    rw [this]; exact x
theorem strsAre_rev {vs : List Value} {ys : List Str} (h : StrsAre vs ys) : StrsAre vs.reverse ys.reverse := by
  induction h with
  | nil => exact .nil
  | cons y t _ ih => rw [List.reverse_cons, List.reverse_cons]; exact StrsAre.append' ih (.cons y t .nil)
section
open PySem.Builtin PySem.Builtin.Str
variable {w : World} {A : Around} {E : Value → Shared → Prop} {s : Shared} {I l : Addr} {x : Str} {t : Tok} {Q : Value → Shared → Prop}
theorem join_rev {items : Array Value} {ys : List Str} (hh : A.handled = none) (hne : l ≠ I) (hit : s.heap.IsRevIter I l ((items.size : Int) - 1)) (hl : s.heap.IsList l items) (hs : StrsAre items.toList ys)
    (hok : (ys.map (·.length)).sum + ys.length * x.length ≤ 16777216) (hn : items.size ≤ sizeLine)
    (h : ∀ h' t' k, (∀ b o, b ≠ I → s.heap.get? b = some o → h'.get? b = some o) → Q (.str (Txt.join x ys.reverse) t') { s with heap := h', toks := k }) :
    wpAny (model PG w) A (call (.builtin "str.join") [.str x t, .ref I]) Q E s := by
  have hlt : ∀ b ∈ [I, l], b < s.heap.objs.size := fun b hb => by
    simp only [List.mem_cons, List.not_mem_nil, or_false] at hb
    rcases hb with rfl | rfl
    · obtain ⟨o, ho, _⟩ := hit; exact Heap.lt_size ho
    · obtain ⟨o, ho, _⟩ := hl; exact Heap.lt_size ho
  have W := (Walks.listRev (prog := PG) (w := w) (A := A.in1.in1) hh I l hne items).toS
  refine wpAny_call (codeAny_call_builtin PySem.F.slot_str_join.plain PySem.F.entry_str_join (PySem.F.slot_str_join.check _ _ _ _ _ _ _ _ (typeIs_str _ _ _) (PySem.F.args_str_join_2 _ _) ?_))
  rw [join_tree_other]
  refine wpAny_bind (wpAny_typeOf hit.typeIs ?_)
  show wpAny _ A.in1 ((pyIter (.ref I)).tryCatch _ >>= fun it => collect it >>= fun items => joinTail x items) _ _ s
  refine wpAny_bind (wpAny_tryCatch (wpAny_pyIter_revIter hit ?_))
  refine wpAny_bind (collect_rev W (fun _ _ st => st.2.1.typeIs) ⟨Nat.zero_le _, by simpa using hit, hl⟩ hlt (by first | walk_at "mine mem1" | simp) (fun s' acc hm hacc => ?_) hn)
  have hacc2 : StrsAre acc.toList ys.reverse := by
    refine strsAre_ext ?_ ?_ (strsAre_rev hs)
    · simp [hacc.1]
    · intro i
      rcases Nat.lt_or_ge i acc.size with q | q
      · have e := hacc.2 i _ (Array.getElem?_eq_getElem q)
        have q' := q
        rw [hacc.1] at q'
        rw [Array.getElem?_toList, Array.getElem?_eq_getElem q, ← e]
        rw [List.getElem?_reverse (by simpa using q')]
        simp
      · rw [List.getElem?_eq_none (by simpa using q), List.getElem?_eq_none (by have := hacc.1; simp; walk_at "mine om")]
  obtain ⟨l', hv, ht⟩ := strsAre_values hacc2
  rw [hv]
  have hok' : JoinOk x (l'.map (·.1)) = true := by
    rw [ht]
    refine joinOk_of ?_
    rw [List.map_reverse, List.sum_reverse, List.length_reverse]
    exact hok
  have hok2 := hok'
  unfold JoinOk at hok2
  rw [Bool.not_eq_true'] at hok2
  have g : Gives (joinTail x (strValues l')) (joinMade x l') := by
    have g0 := gives_joinTail x l' hok2
    cases l' with
    | nil => exact g0
    | cons p r => cases r with
      | nil => exact g0
      | cons q r' => exact g0
  refine g PG w A (wants Q E) s' (post_join l' ⟨joinFit_length hok2, fun t' k => ?_⟩)
  refine let_goal ?_
  intro gl_P
  obtain ⟨hp, gg, dr, tk, os⟩ := s'
  obtain ⟨m1, m2, m3, m4, m5⟩ := hm
  dsimp only [gl_P]
  clear gl_P
  obtain ⟨hp0, gg0, dr0, tk0, os0⟩ := s
  dsimp only at m1 m2 m3 m4
  subst m2; subst m3; subst m4
  rw [ht]
  exact h hp t' k fun b o hb e => m1 b o (by simpa using hb) e
end
theorem fr_but {h₀ h h' : Heap} {L D : Addr} {m : Str → Option Value} (F : Fr h₀ L h m) (hL : D ≠ L) (hD : h₀.get? D = none) (k : ∀ b o, b ≠ D → h.get? b = some o → h'.get? b = some o) : Fr h₀ L h' m := by
  refine let_goal ?_
  intro gl_P
  obtain ⟨o, es, ep, ho, r⟩ := F.ns
  dsimp only [gl_P]
  clear gl_P
  refine ⟨⟨o, es, ep, k L o (fun q => hL q.symm) ho, r⟩, fun b o e => k b o (fun q => ?_) (F.keep b o e), F.above⟩
  rw [q, hD] at e; cases e
theorem join_revN {w : World} {A : Around} {E : Value → Shared → Prop} {s : Shared} {h₀ : Heap} {L D l : Addr} {m : Str → Option Value} {news : List (Addr × Obj)} {its : Array Value} {n : Nat} {i : Int} {x : Str} {t : Tok} {ys : List Str} {Q : Value → Shared → Prop} (hh : A.handled = none) (F : Fr h₀ L s.heap m)
    (N : News h₀ L s.heap ((D, revObj l i) :: (l, listOf its n) :: news)) (hlt : @LT.lt Nat _ l D) (hi : i = (its.size : Int) - 1) (hs : StrsAre its.toList ys) (hok : (ys.map (·.length)).sum + ys.length * x.length ≤ 16777216) (hn : its.size ≤ sizeLine)
    (h : ∀ h' t' k, Fr h₀ L h' m → Q (.str (Txt.join x ys.reverse) t') { s with heap := h', toks := k }) : wpAny (model PG w) A (call (.builtin "str.join") [.str x t, .ref D]) Q E s := by
  subst hi
  have n1 := N _ (.head _)
  refine join_rev (l := l) hh (Nat.ne_of_lt hlt) ⟨_, n1.1, rfl, rfl⟩ ⟨_, (N (l, listOf its n) (.tail _ (.head _))).1, rfl, n, rfl⟩ hs hok hn fun h' t' k hk => ?_
  exact h h' t' k (fr_but F n1.2.1 n1.2.2 hk)
theorem news_nilF {h₀ h : Heap} {L : Addr} {m : Str → Option Value} (_ : Fr h₀ L h m) : News h₀ L h [] := fun _ h => nomatch h
section
variable {w : World} {A : Around} {E : Value → Shared → Prop} {s : Shared} {p : Addr} {its : Array Value} {Q : Value → Shared → Prop}
theorem isi_tup (ht : IsTup s.heap p its) (h : Q (.bool true) s) : wpAny (model PG w) A (call (.builtin "isinstance") [.ref p, .type "tuple"]) Q E s :=
  by obtain ⟨_, ho, hc, _⟩ := ht; exact IsiPair.tuple_tuple ho hc h
theorem isi_tup_str (ht : IsTup s.heap p its) (h : Q (.bool false) { s with toks := s.toks + 1 }) : wpAny (model PG w) A (call (.builtin "isinstance") [.ref p, .type "str"]) Q E s :=
  by obtain ⟨_, ho, hc, _⟩ := ht; exact IsiPair.tuple_str ho hc h
theorem isi_dict {o : Obj} (ho : s.heap.get? p = some o) (hc : o.cls = .type "dict") (h : Q (.bool true) s) : wpAny (model PG w) A (call (.builtin "isinstance") [.ref p, .type "dict"]) Q E s :=
  IsiPair.dict_dict ho hc h
end
section
variable {w : World} {mean : ExcName → Option Value} {mg mb : Str → Option Value} {f : Addr} {vs : List Value} {dn un' : Nat}
  {dp un : Nat} {gd : Option (List Code)} {cn : Str} {cs : Scope} {ca : Addr} {ccd : Value} {cl : List (Str × Addr)} {outer : List Env} {A₀ : Around} {base h₀ : Heap} {L : Addr} {m : Str → Option Value} {Q E : Value → Shared → Prop}
theorem Spec.useP {h : Heap} {gn : Array GenState} {dr : Drawn} {tk : Nat} {os : OsState} {v : Value} {pre : Heap → Prop} {news : List (Addr × Obj)} (S : Spec w mean mg mb f vs [] dn un' pre (IsV v) NoExc) (B : Below A₀ base outer h₀) (F : Fr h₀ L h m) (X : (Mine.hd.heap_1 w.params).In h₀) (N : News h₀ L h news) (T : Top PV LO mean mg mb h₀) (hk : cs.kind = .function)
    (hd : dp + dn < recursionLimit) (hu : un + un' < cLine) (hp : pre h)
    (ret : ∀ h' tk', Keeps h h' [] → Fr h₀ L h' m → News h₀ L h' news → Q v ⟨h', gn, dr, tk', os⟩) :
    wpAny (model PG w) (ktrTop dp un gd cn cs L ca ccd cl outer) (call (.ref f) vs) Q E ⟨h, gn, dr, tk, os⟩ :=
  S.use0 B F X N T hk hd hu hp fun _ h' tk' k F' N' e => e ▸ ret h' tk' k F' N'
end
section
variable {w : World} {A₀ : Around} {E : Value → Shared → Prop} {s' : Shared} {base g G B h₅ : Heap} {outer : List Env} {L a e : Addr} {m : Str → Option Value} {name : Str} {scope : Scope} {cd : Value} {as : List Addr} {exc : Heap → Heap → Prop}
  {b₀ : Stmt} {suite : List Stmt} {pos np : Pos} {rest : List ExceptHandler} {Q : Flow → Shared → Prop} {x : Str} {mean : ExcName → Option Value} {mg mb : Str → Option Value}
theorem mine_ground (K : Below A₀ base outer g) (F : Fr g L G m) (hBG : ∀ b o, g.get? b = some o → b ∉ outer.filterMap (·.frame) → B.get? b = some o) (hBh : B.StaysIn h₅)
    (hO : ∀ b ∈ outer.filterMap (·.frame), ∀ o, g.get? b = some o → (∀ vs, o.data ≠ .fields vs) → ∃ sl, h₅.get? b = some { o with slots := sl }) (hN : h₅.Ns L m) :
    ∃ g', KtsTurn (outer.filterMap (·.frame)) g g' ∧ Fr g' L h₅ m ∧ Below A₀ base outer g' := by
  obtain ⟨T, S⟩ := kts_turn_at (h := h₅) (fs := outer.filterMap (·.frame)) (g := g)
    (fun b hb => by
      refine let_goal ?_
      intro gl_P
      obtain ⟨_, o, ho, _⟩ := K.frames.mem hb
      dsimp only [gl_P]
      clear gl_P
      exact ⟨o, ho⟩)
    (fun b o e nm => hBh b o (hBG b o e nm))
    (fun b o e hm => by
      refine let_goal ?_
      intro gl_P
      obtain ⟨_, o', ho', hd⟩ := K.frames.mem hm
      dsimp only [gl_P]
      clear gl_P
      rw [e] at ho'
      cases ho'
      exact hO b hm o e hd)
  refine ⟨_, T, ⟨hN, S, by rw [T.size]; exact F.above⟩, ⟨K.stack, fun b o e => T.other b o (K.stays b o e) (fun hm => by
    rw [(K.frames.mem hm).1] at e
    cases e), K.frames.of_keeps fun b o e _ => ?_⟩⟩
  obtain ⟨sl, hs⟩ := T.up e
  exact ⟨_, hs, rfl⟩
theorem caught_LF (Th : Thrown base (envOf name scope L a cd :: outer) G as exc e s'.heap) (F : Fr g L G m) (K : Below A₀ base outer g) (hasL : L ∉ as) (hasg : ∀ b o, g.get? b = some o → b ∉ as) (XB : (Mine.hd.heap_1 w.params).In base) (TB : Top PV LO mean mg mb base)
    (D : KtsDicts (outer.filterMap (·.frame)) g) (ex : nsIn (Mine.hd.heap_1 w.params) mainGlobals x = some (some (.ref 52))) (q : ktsIn (Mine.hd.heap_1 w.params) 52 "BaseException" = true)
    (k : ∀ h' g' Bh, KtsTurn (outer.filterMap (·.frame)) g g' → Fr g' L h' m → Below A₀ base outer g' → (Mine.hd.heap_1 w.params).In g' → Top PV LO mean mg mb g' → KtsDicts (outer.filterMap (·.frame)) g' → exc G Bh →
      (∀ b o, G.get? b = some o → b ∉ as → b ∉ (envOf name scope L a cd :: outer).filterMap (·.frame) → Bh.get? b = some o) → (∀ new : List (Addr × Obj), (∀ p ∈ new, Bh.get? p.1 = some p.2 ∧ g.get? p.1 = none) → News g' L h' new) →
      wpAny (model PG w) ((A₀.deeper (envOf name scope L a cd)).mark (some (.ref e))) (execs (b₀ :: suite) (envOf name scope L a cd)) Q E { s' with heap := h' })
    (hk : scope.kind = .function := by rfl) (hx : (envOf name scope L a cd).kindOf x = some .globalImplicit := by rfl) (hd : (x == ("__debug__" : Str)) = false := by decide)
    (hE : PassesOwnAt (model PG w) ((A₀.deeper (envOf name scope L a cd)).mark (some (.ref e))) (A₀.deeper (envOf name scope L a cd)) (envOf name scope L a cd) E := by passes_own) :
    wpAny (model PG w) (A₀.deeper (envOf name scope L a cd)) (noteFrame (.ref e) (envOf name scope L a cd))
      (fun _ s₂ => wpAny (model PG w) (A₀.deeper (envOf name scope L a cd)) (setFlight (.ref e) none) (fun _ s₃ =>
        wpAny (model PG w) (A₀.deeper (envOf name scope L a cd)) (handleBy (.ref e) (envOf name scope L a cd) (.ExceptHandler (some (.Name x np)) none (b₀ :: suite) pos :: rest)) Q E s₃) E s₂) E s' := by
  refine let_goal ?_
  intro gl_P
  obtain ⟨B, hB, hkp, hexc, ⟨a0, hfl⟩, hsl⟩ := Th
  dsimp only [gl_P]
  clear gl_P
  have hL : B.get? L = none := by
    refine let_goal ?_
    intro gl_P
    obtain ⟨_, ⟨L', _, hf, hn', _⟩, _⟩ := hfl.2.2.1
    dsimp only [gl_P]
    clear gl_P
    obtain rfl : L = L' := Option.some.inj hf
    exact hn'
  have hBG : ∀ b o, g.get? b = some o → b ∉ outer.filterMap (·.frame) → B.get? b = some o := fun b o hb hf => hkp b o (F.keep b o hb) (hasg b o hb) fun hm => by
    rcases kts_mem hm with z | z
    · rw [z, kts_self F] at hb; cases hb
    · exact hf z
  have hO : ∀ h, s'.heap.UpToSlots h → ∀ b ∈ outer.filterMap (·.frame), ∀ o, g.get? b = some o → (∀ vs, o.data ≠ .fields vs) → ∃ sl, h.get? b = some { o with slots := sl } := fun h hu b hb o ho hd => by
    refine let_goal ?_
    intro gl_P
    obtain ⟨env, he, q⟩ := List.mem_filterMap.mp hb
    obtain ⟨sl, e1⟩ := hsl b (List.mem_filterMap.mpr ⟨env, List.mem_cons_of_mem _ he, q⟩) o (F.keep b o ho) (hasg b o ho) hd
    obtain ⟨sl', e2⟩ := hu b _ e1 hd
    dsimp only [gl_P]
    clear gl_P
    exact ⟨sl', e2⟩
  have hN : ∀ h, s'.heap.UpToSlots h → h.Ns L m := fun h hu => by
    refine let_goal ?_
    intro gl_P
    obtain ⟨o, es, ep, ho, hd, r⟩ := F.ns
    dsimp only [gl_P]
    clear gl_P
    have hf : ∀ vs, o.data ≠ .fields vs := fun vs q => by rw [hd] at q; cases q
    obtain ⟨sl, e1⟩ := hsl L (List.mem_filterMap.mpr ⟨envOf name scope L a cd, .head _, rfl⟩) o ho hasL hf
    obtain ⟨sl', e2⟩ := hu L _ e1 hf
    exact ⟨_, es, ep, e2, hd, r⟩
  refine wpAny_looks_onW (Around.frames_deeper K.stack) rfl hfl fun h₄ hheld₄ hsm₄ => ?_
  refine wpAny_landsW hheld₄ fun h₅ hheld hsm₅' => ?_
  have hsm₅ := hsm₄.trans hsm₅'
  refine let_goal ?_
  intro gl_P
  obtain ⟨g₅, T₅, F₅, K₅⟩ := mine_ground K F hBG hheld.1 (hO _ hsm₅) (hN _ hsm₅)
  dsimp only [gl_P]
  clear gl_P
  have X₅ : (Mine.hd.heap_1 w.params).In g₅ := XB.keeps K₅.stays
  have P₅ : TopRead PV LO mg mb g₅ := topRead_of (TB.keeps K₅.stays)
  refine let_goal ?_
  intro gl_P
  obtain ⟨ob, hob, hobc⟩ := hheld.there
  obtain ⟨nm, q', N, bs, bm, hdct, sn, sub, ab, col, dd, k0, k1, k2, k3, k5, newId, hC, hbase, hbT⟩ := kts_cls X₅ q
  dsimp only [gl_P]
  clear gl_P
  have hC₅ := F₅.keep _ _ hC
  refine wpAny_handleBy_cons (codeAny_handlers_test (name_K F₅ X₅ P₅ ex ?_ hk hx hd)) (by intro q; cases q)
  refine wpAny_excMatches_sub_self hC₅ hob hobc hbase (codeAny_handlers_suite ?_)
  refine lands_againW hheld fun h₆ hfl₆ hsm₆ => ?_
  refine let_goal ?_
  intro gl_P
  obtain ⟨g₆, T₆, F₆, K₆⟩ := mine_ground K F hBG hfl₆.1 (hO _ (hsm₅.trans hsm₆)) (hN _ (hsm₅.trans hsm₆))
  dsimp only [gl_P]
  clear gl_P
  exact wpAny_passesOwnAt hE (k h₆ g₆ B T₆ F₆ K₆ (XB.keeps K₆.stays) (TB.keeps K₆.stays) (D.turn T₆) hexc hkp fun new hn p hp => ⟨hfl₆.1 _ _ (hn p hp).1, (fun z => by have := (hn p hp).1; rw [z, hL] at this; cases this), T₆.none_ _ (hn p hp).2⟩)
end
section
theorem words_J7 : True := by
  k_with "J7 call ref" => ((with_reducible show wpAny _ _ (call (Value.ref 201) _) _ _ _); k_here; k_dflt (refine' Spec.useV (alnum_name_spec _ _ _ _ _ _) ?k1_J7_0 ?k2_J7_0 ?k3_J7_0 ?k4_J7_0 ?k5_J7_0 ?kK_J7_0 ?kd_J7_0 ?ku_J7_0 ?_; (case k1_J7_0 => k_asm); (case k2_J7_0 => k_asm); (case k3_J7_0 => k_asm); (case k4_J7_0 => k_asm); (case k5_J7_0 => k_asm); (case kK_J7_0 => first | exact rfl | assumption); (case kd_J7_0 => ktr_room); (case ku_J7_0 => ktr_units); intro h9_w tk9_w K9_w F9_w N9_w; (try k_fold); (try k_sweep)))
  trivial
local macro_rules | `(tactic| walk_at $s) => fwd "J7 " s
theorem off_Q1 : True := by
  w_top off
  trivial
theorem quoted_spec (w mean mg mb) (x : Str) (t : Tok) (hx : alnumS x = true) : Spec w mean mg mb 292 [.str x t] [] 5 60 NoPre (StrOr (some x)) NoExc := by
  refine Spec.of ?_
  intro dp un gd cn cs a ccd cl outer A₀ base h₀ L m hh gn dr tk os Q E B F X N T hk hd hu hpre hret hthr
  have hB : Bind [(Str.ofString "text", Value.str x t)] := .is
  walk_at "mine enter"
  k_steps
  exact ret_pure hret (by assumption) (by assumption) ⟨x, t, rfl, rfl⟩
theorem unquoted_spec (w mean mg mb) (x : Str) (t : Tok) (hx : x.length ≤ 18) (h1 : 1 ≤ x.length) (hq : (Txt.item x 0 != Str.ofString "'") = true) : Spec w mean mg mb 306 [.str x t] [] 5 60 NoPre (StrOr (if alnumS x then some x else none)) (NoneExc (if alnumS x then some x else none)) := by
  refine Spec.of ?_
  intro dp un gd cn cs a ccd cl outer A₀ base h₀ L m hh gn dr tk os Q E B F X N T hk hd hu hpre hret hthr
  have hB : Bind [(Str.ofString "word", Value.str x t)] := .is
  walk_at "mine enter"
  k_steps
  · exact ret_pure hret (by assumption) (by assumption) ⟨x, t, by simp [*], rfl⟩
  all_goals
    walk_at "mine thrown"
    exact fun _ _ _ => by simp [NoneExc, *]
end
theorem off_SymC : True := by
  w_top off
  trivial
theorem atom_spec (w mean mg mb) (a : SymA) (st : SymSt) (c : Nat) (sy : List (Addr × Obj)) (x : Str) (t : Tok) :
    Spec w mean mg mb 89 [.ref a.s, .str x t] (symR w a sy) 3 24 (SyPre w a st c sy) (SyPost w a (c + 1) sy (AtomV st x)) NoExc := by
  refine Spec.pull ?_
  revert a sy
  refine sy_open ?_
  intro as ad a1 a2 a3 a4 k1 k2 k3 k4 vs n o2 kvs vs3 m3 o4 fz hc P pOff low2 low4 hT hD2 hF2 hs3 hf3 lT lF X4 nF n1 n2 n3 n4 n5 n6 n7 n8 n9 n10 n11 n12 n13 n14 n15 hsz hsz1 hsz2 hsz3 hsz4

  refine Spec.of ?_
  intro dp un gd cn cs a ccd cl outer A₀ base h₀ L m hh gn dr tk os Q E B F X N T hk hd hu hpre hret hthr
  have hB : Bind [(Str.ofString "self", Value.ref as), (Str.ofString "text", Value.str x t)] := .is
  dsimp only [symR, symI, symJ] at *
  walk_at "mine enter"
  k_steps
  have hv := find_atom (by assumption)
  rcases hv with ⟨hno, hl, tv, rfl⟩ | ⟨i, tv, hi, rfl⟩
  · k_steps
    refine hret _ _ _ (keeps_of (h := hh) (by assumption) (by assumption)) ?_
    exact SyPost.mk (by assumption) (by assumption) (P.atom (by assumption) hno hl (by assumption) (by assumption)) ⟨_, _, rfl, by simp, ⟨List.prefix_append _ _, List.prefix_refl _⟩, rfl⟩
  · k_steps
    refine hret _ _ _ (keeps_of (h := hh) (by assumption) (by assumption)) ?_
    exact SyPost.mk (by assumption) (by assumption) (P.more (Nat.le_succ c)) ⟨_, _, rfl, hi, st.le_refl, rfl⟩
theorem off_SymF : True := by
  w_top off
  trivial
theorem functor_spec (w mean mg mb) (a : SymA) (st : SymSt) (c : Nat) (sy : List (Addr × Obj)) (i j : Int) (t1 t2 : Tok) :
    Spec w mean mg mb 103 [.ref a.s, .int i t1, .int j t2] (symR w a sy) 3 24 (SyPre w a st c sy) (SyPost w a (c + 1) sy (FunV st (i, j))) NoExc := by
  refine Spec.pull ?_
  revert a sy
  refine sy_open ?_
  intro as ad a1 a2 a3 a4 k1 k2 k3 k4 vs n o2 kvs vs3 m3 o4 fz hc P pOff low2 low4 hT hD2 hF2 hs3 hf3 lT lF X4 nF n1 n2 n3 n4 n5 n6 n7 n8 n9 n10 n11 n12 n13 n14 n15 hsz hsz1 hsz2 hsz3 hsz4

  refine Spec.of ?_
  intro dp un gd cn cs a ccd cl outer A₀ base h₀ L m hh gn dr tk os Q E B F X N T hk hd hu hpre hret hthr
  have hB : Bind [(Str.ofString "self", Value.ref as), (Str.ofString "atom", Value.int i t1), (Str.ofString "arity", Value.int j t2)] := .is
  dsimp only [symR, symI, symJ] at *
  walk_at "mine enter"
  k_steps
  refine getMethod_fun (by assumption) (by first | walk_at "mine mem1" | simp) (fun q hq => by first | walk_at "mine mem1" | simp [hq]) X4 nF ?_
  k_steps
  refine get_fun (by assumption) (by first | walk_at "mine mem1" | simp) (fun q hq => by first | walk_at "mine mem1" | simp [hq]) (.head _) X4 nF low4 (by ktr_units) (fun hno => ?_) (fun n' t' hn' => ?_)
  · k_steps
    rename as < _ ∧ _ => l9
    have hp9 := notin6 (And.intro l9.1 ⟨l9.2.1, l9.2.2.1, l9.2.2.2.1, l9.2.2.2.2.1, l9.2.2.2.2.2.1⟩)
    refine set_fun (pre := [(_, keyObj i j t1 t2), (as, instObj 155 ad), (ad, dictOf (symE w a1 a2 a3 a4 k1 k2 k3 k4) 4), (a1, W.listOf vs n), (a2, o2), (a3, W.listOf (vs3.push _) (m3 + 1))]) (by assumption) (by assumption) (by k_all) (pOff.ne (by first | walk_at "mine mem1" | simp)) (.head _) X4 nF hno (by ktr_units) (by walk_at "mine om") (fun h9 o9 F9 N9 X9 => ?_)
    (try dsimp only [List.cons_append, List.nil_append] at N9)
    k_steps
    refine hret _ _ _ (keeps_of (h := hh) (by assumption) (by assumption)) ?_
    exact SyPost.mkF (by assumption) (by assumption) (P.func ⟨hs3, hf3⟩ hno hp9 X9) ⟨_, _, rfl, by simp, ⟨List.prefix_refl _, List.prefix_append _ _⟩, rfl⟩
  · k_steps
    refine hret _ _ _ (keeps_of (h := hh) (by assumption) (by assumption)) ?_
    exact SyPost.mk (by assumption) (news_tl (by assumption)) (P.more (Nat.le_succ c)) ⟨_, _, rfl, hn', st.le_refl, rfl⟩
theorem off_Use : True := by
  w_top off
  trivial
section
variable {w : World} {mean : ExcName → Option Value} {mg mb : Str → Option Value} {f : Addr} {vs : List Value} {dn un' : Nat}
  {dp un : Nat} {gd : Option (List Code)} {cn : Str} {cs : Scope} {ca : Addr} {ccd : Value} {cl : List (Str × Addr)} {outer : List Env} {A₀ : Around} {base h₀ : Heap} {L : Addr} {m : Str → Option Value} {Q E : Value → Shared → Prop} {R : List (Addr × Obj)}
  {a : SymA} {st : SymSt} {c c' : Nat} {sy : List (Addr × Obj)} {RR : Value → SymSt → Prop}
theorem Spec.useSy {h : Heap} {gn : Array GenState} {dr : Drawn} {tk : Nat} {os : OsState} (P : SyP w a st c sy) (S : Spec w mean mg mb f vs (symR w a sy) dn un' (SyPre w a st c sy) (SyPost w a c' sy RR) NoExc) (B : Below A₀ base outer h₀) (F : Fr h₀ L h m) (X : (Mine.hd.heap_1 w.params).In h₀) (N : News h₀ L h (R ++ symR w a sy)) (T : Top PV LO mean mg mb h₀) (hk : cs.kind = .function)
    (hd : dp + dn < recursionLimit) (hu : un + un' < cLine) (hc : c < 10000) (off : ∀ q ∈ R, ∀ p ∈ symR w a sy, p.1 ≠ q.1)
    (ret : ∀ v h' tk' st' sy', RR v st' → SyP w a st' c' sy' → Fr h₀ L h' m → News h₀ L h' (R ++ symR w a sy') → OwnOff sy' (R.map (·.1)) → Q v ⟨h', gn, dr, tk', os⟩) :
    wpAny (model PG w) (ktrTop dp un gd cn cs L ca ccd cl outer) (call (.ref f) vs) Q E ⟨h, gn, dr, tk, os⟩ :=
  S.use B F X N T hk hd hu (fun p hp => List.mem_append.mpr (.inr hp)) ⟨P, hc⟩ (fun v h' tk' k F' po => by
    refine let_goal ?_
    intro gl_P
    obtain ⟨st', sy', r, P', l⟩ := po
    obtain ⟨n, o⟩ := l.both F N k off
    dsimp only [gl_P]
    clear gl_P
    refine ret v h' tk' st' sy' r P' F' n fun p hp b hb => ?_
    obtain ⟨q, hq, e⟩ := List.mem_map.mp hb
    rw [← e]; exact o q hq p (by first | walk_at "mine mem1" | simp [hp])) fun _ _ _ x => x.no
end
theorem SyPost.of {w : World} {h h' g : Heap} {a : SymA} {c : Nat} {L' : Addr} {sy sy' : List (Addr × Obj)} {R : Value → SymSt → Prop} {v : Value} {st' : SymSt} (HG : Keeps h g ((symR w a sy).map (·.1))) (N : News g L' h' ((a.s, instObj 155 a.d) :: symJ w a :: sy')) (P : SyP w a st' c sy') (hR : R v st') : SyPost w a c sy R h h' v :=
  ⟨st', sy', hR, P, led_of HG N⟩
section
variable {g h : Heap} {L : Addr} {x1 x2 x3 x4 : Addr × Obj} {mu : List (Addr × Obj)}
theorem newsR0 (N : News g L h mu) : News g L h ([] ++ mu) := N
theorem newsR1 (N : News g L h (x1 :: mu)) : News g L h ([x1] ++ mu) := N
theorem newsR2 (N : News g L h (x1 :: x2 :: mu)) : News g L h ([x1, x2] ++ mu) := N
theorem newsR3 (N : News g L h (x1 :: x2 :: x3 :: mu)) : News g L h ([x1, x2, x3] ++ mu) := N
theorem newsR4 (N : News g L h (x1 :: x2 :: x3 :: x4 :: mu)) : News g L h ([x1, x2, x3, x4] ++ mu) := N
end
section
theorem words_J8 : True := by
  k_with "J8 call ref" => ((with_reducible show wpAny _ _ (call (Value.ref 341) _) _ _ _); k_here; k_dflt (refine' Spec.useI (read_count_spec _ _ _ _ _ _ ?kx0_J8_0) ?k1_J8_0 ?k2_J8_0 ?k3_J8_0 ?k4_J8_0 ?k5_J8_0 ?kK_J8_0 ?kd_J8_0 ?ku_J8_0 ?kp_J8_0 ?_ ?_; (case kx0_J8_0 => first | assumption | walk_at "mine om" | exact And.left (‹¬ _ < _ → _ ∧ _› (by assumption)) | exact And.right (‹¬ _ < _ → _ ∧ _› (by assumption))); (case k1_J8_0 => k_asm); (case k2_J8_0 => k_asm); (case k3_J8_0 => k_asm); (case k4_J8_0 => k_asm); (case k5_J8_0 => k_asm); (case kK_J8_0 => first | exact rfl | assumption); (case kd_J8_0 => ktr_room); (case ku_J8_0 => ktr_units); (case kp_J8_0 => first | trivial | assumption); (intro n9_w t9_w h9_w tk9_w q9_w K9_w F9_w N9_w); (try k_fold); (try k_sweep); (rotate_left 1); (intro e9_w h9_w tk9_w T9_w); (rotate_left 1)))
  trivial
local macro_rules | `(tactic| walk_at $s) => fwd "J8 " s
theorem off_Q2 : True := by
  w_top off
  trivial
noncomputable abbrev RegPost (r : Option (Str × Int)) : Heap → Heap → Value → Prop := fun h h' v => ∃ p t1 t2 y i, r = some (y, i) ∧ v = .ref p ∧ Led h h' [] [(p, { cls := .type "tuple", data := .seq #[.str y t1, .int i t2] })]
noncomputable def regS (x : Str) : Option (Str × Int) := if (Txt.item x 0 != Str.ofString "x") && (Txt.item x 0 != Str.ofString "y") then none else (cntS (Txt.slice x (some 1) none)).map fun i => (Txt.item x 0, i)
theorem read_register_spec (w mean mg mb) (x : Str) (t : Tok) (hx : x.length ≤ 18) (h1 : 1 ≤ x.length) : Spec w mean mg mb 362 [.str x t] [] 6 60 NoPre (RegPost (regS x)) (NoneExc (regS x)) := by
  refine Spec.of ?_
  intro dp un gd cn cs a ccd cl outer A₀ base h₀ L m hh gn dr tk os Q E B F X N T hk hd hu hpre hret hthr
  have hB : Bind [(Str.ofString "word", Value.str x t)] := .is
  walk_at "mine enter"
  k_steps
  all_goals first
    | (refine ret_pure hret (by assumption) (by assumption) ⟨_, _, _, _, _, ?_, rfl, led_of (by assumption) (by assumption)⟩; simp only [regS, *]; rfl)
    | (walk_at "mine thrown"; exact fun _ _ q => by (try simp only [NoneExc] at q); simp [NoneExc, regS, *])
theorem off_R1 : True := by
  w_top off
  trivial
noncomputable def SyExc (w : World) (a : SymA) (st : SymSt) (c : Nat) (sy : List (Addr × Obj)) (C : Prop) : Heap → Heap → Prop := fun h h' =>
  C ∧ ∃ st' sy', st.le st' ∧ SyP w a st' c sy' ∧ Led h h' (symR w a sy) (symR w a sy')
section
variable {w : World} {h h' g Bh : Heap} {a : SymA} {st st' : SymSt} {c c' : Nat} {L' : Addr} {sy sy' R : List (Addr × Obj)} {C : Prop}
theorem SyExc.new (HG : Keeps h g ((symR w a sy).map (·.1))) (N : News g L' h' (R ++ symR w a sy')) (hB : ∀ p ∈ R ++ symR w a sy', Bh.get? p.1 = some p.2) (hC : C) (hl : st.le st') (P : SyP w a st' c' sy') (hc : c' ≤ c) : SyExc w a st c sy C h Bh :=
  ⟨hC, st', sy', hl, P.more hc, led_thrown HG N (fun p hp => List.mem_append.mpr (.inr hp)) hB⟩
theorem SyExc.up {A : Around} {base : Heap} {outer : List Env} {name : Str} {scope : Scope} {fa : Addr} {cd : Value} (HG : Keeps h g ((symR w a sy).map (·.1))) (N : News g L' h' (R ++ symR w a sy')) (B' : Below A base outer g)
    (hk : ∀ b o, h'.get? b = some o → b ∉ ([] : List Addr) → b ∉ (envOf name scope L' fa cd :: outer).filterMap (·.frame) → Bh.get? b = some o) (hC : C) (hl : st.le st') (P : SyP w a st' c' sy') (hc : c' ≤ c) : SyExc w a st c sy C h Bh :=
  SyExc.new HG N (fun p hp => hk _ _ (N p hp).1 (by first | walk_at "mine mem1" | simp) (led_frames B' N p hp)) hC hl P hc
end
inductive ConR (st : SymSt) : Int ⊕ Str → Int → Int → SymSt → Prop
  | num (i : Int) : ConR st (.inl i) 5 i st
  | atom {st' : SymSt} {n : Nat} {y : Str} : st'.texts[n]? = some y → st.le st' → st'.funs = st.funs → ConR st (.inr y) 4 (n : Int) st'
noncomputable def dig0 (x : Str) : Bool := !decide ((Txt.item x 0).cps.toList < (Str.ofString "0").cps.toList) && !decide ((Str.ofString "9").cps.toList < (Txt.item x 0).cps.toList)
noncomputable def conS (x : Str) : Option (Int ⊕ Str) :=
  if dig0 x then (cntS x).map .inl
  else if Txt.item x 0 == Str.ofString "-" then (match cntS (Txt.slice x (some 1) none) with | some n => if n = 0 then none else some (.inl (-n)) | none => none)
  else if alnumS x then some (.inr x) else none
theorem con_atom {x y : Str} (h1 : dig0 x = false) (h2 : (Txt.item x 0 == Str.ofString "-") = false) (q : (if alnumS x = true then some x else none) = some y) : conS x = some (.inr y) := by
  unfold conS
  rw [h1, h2]
  split at q
  · rename_i h; cases q; simp [h]
  · cases q
theorem con_noatom {x : Str} (h1 : dig0 x = false) (h2 : (Txt.item x 0 == Str.ofString "-") = false) (q : (if alnumS x = true then some x else none) = none) : conS x = none := by
  unfold conS
  rw [h1, h2]
  split at q
  · cases q
  · rename_i h; simp [h]
theorem con_num {x : Str} {n : Int} (h1 : dig0 x = true) (q : cntS x = some n) : conS x = some (.inl n) := by simp [conS, h1, q]
theorem con_nonum {x : Str} (h1 : dig0 x = true) (q : cntS x = none) : conS x = none := by simp [conS, h1, q]
theorem con_neg {x : Str} {n : Int} (h1 : dig0 x = false) (h2 : (Txt.item x 0 == Str.ofString "-") = true) (q : cntS (Txt.slice x (some 1) none) = some n) (hn : n ≠ 0) : conS x = some (.inl (-n)) := by simp [conS, h1, h2, q, hn]
theorem con_zero {x : Str} {n : Int} (h1 : dig0 x = false) (h2 : (Txt.item x 0 == Str.ofString "-") = true) (q : cntS (Txt.slice x (some 1) none) = some n) (hn : n = 0) : conS x = none := by simp [conS, h1, h2, q, hn]
theorem con_noneg {x : Str} (h1 : dig0 x = false) (h2 : (Txt.item x 0 == Str.ofString "-") = true) (q : cntS (Txt.slice x (some 1) none) = none) : conS x = none := by simp [conS, h1, h2, q]
theorem dig0_lo {x : Str} (h : (Txt.item x 0).cps.toList < (Str.ofString "0").cps.toList) : dig0 x = false := by simp [dig0, h]
theorem dig0_hi {x : Str} (h : (Str.ofString "9").cps.toList < (Txt.item x 0).cps.toList) : dig0 x = false := by simp [dig0, h]
theorem dig0_yes {x : Str} (h : ¬(Txt.item x 0).cps.toList < (Str.ofString "0").cps.toList) (h' : ¬(Str.ofString "9").cps.toList < (Txt.item x 0).cps.toList) : dig0 x = true := by simp only [dig0, h, h']; rfl
noncomputable def ConPost (w : World) (a : SymA) (st : SymSt) (c : Nat) (sy : List (Addr × Obj)) (r : Option (Int ⊕ Str)) : Heap → Heap → Value → Prop := fun h h' v =>
  ∃ p t1 t2 d k i st' sy', r = some d ∧ v = .ref p ∧ ConR st d k i st' ∧ SyP w a st' c sy' ∧ Led h h' (symR w a sy) ((p, keyObj k i t1 t2) :: symR w a sy') ∧ ∀ q ∈ symR w a sy', q.1 ≠ p
section
variable {w : World} {h h' g : Heap} {a : SymA} {st st' : SymSt} {c c' : Nat} {L' p : Addr} {sy sy' : List (Addr × Obj)} {x : Str} {d : Int ⊕ Str} {k i : Int} {t1 t2 : Tok}
theorem ConPost.mk (HG : Keeps h g ((symR w a sy).map (·.1))) (N : News g L' h' ((p, keyObj k i t1 t2) :: (a.s, instObj 155 a.d) :: symJ w a :: sy')) (P : SyP w a st' c' sy') (hc : c' ≤ c) (hr : conS x = some d) (R : ConR st d k i st') (off : ∀ q ∈ symR w a sy', q.1 ≠ p) : ConPost w a st c sy (conS x) h h' (.ref p) :=
  ⟨p, t1, t2, d, k, i, st', sy', hr, rfl, R, P.more hc, led_of HG N, off⟩
end
end
theorem off_SymD : True := by
  w_top off
  trivial
theorem text_spec (w mean mg mb) (a : SymA) (st : SymSt) (c : Nat) (sy : List (Addr × Obj)) (i : Nat) (x : Str) (t : Tok) (hx : st.texts[i]? = some x) :
    Spec w mean mg mb 96 [.ref a.s, .int (i : Int) t] (symR w a sy) 3 24 (SyPre w a st c sy) (SyPost w a c sy (StrV st x)) NoExc := by
  refine Spec.pull ?_
  revert a sy
  refine sy_open ?_
  intro as ad a1 a2 a3 a4 k1 k2 k3 k4 vs n o2 kvs vs3 m3 o4 fz hc P pOff low2 low4 hT hD2 hF2 hs3 hf3 lT lF X4 nF n1 n2 n3 n4 n5 n6 n7 n8 n9 n10 n11 n12 n13 n14 n15 hsz hsz1 hsz2 hsz3 hsz4

  refine Spec.of ?_
  intro dp un gd cn cs a ccd cl outer A₀ base h₀ L m hh gn dr tk os Q E B F X N T hk hd hu hpre hret hthr
  have hB : Bind [(Str.ofString "self", Value.ref as), (Str.ofString "number", Value.int (i : Int) t)] := .is
  dsimp only [symR, symI, symJ] at *
  walk_at "mine enter"
  have hi : i < st.texts.length := (List.getElem?_eq_some_iff.mp hx).1
  have hi1 : (i : Int) < (vs.size : Int) := by rw [← Array.length_toList]; walk_at "mine om"
  k_steps
  all_goals
   refine hret _ _ _ (keeps_of (h := hh) (by assumption) (by assumption)) ?_
   exact SyPost.mk (by assumption) (by assumption) P ⟨⟨_, congrArg (fun z => Value.str z _) (getD_of hx)⟩, rfl⟩
theorem count_spec (w mean mg mb) (a : SymA) (st : SymSt) (c : Nat) (sy : List (Addr × Obj)) :
    Spec w mean mg mb 138 [.ref a.s] (symR w a sy) 3 24 (SyPre w a st c sy) (SyPost w a c sy (IntV st (st.texts.length : Int))) NoExc := by
  refine Spec.pull ?_
  revert a sy
  refine sy_open ?_
  intro as ad a1 a2 a3 a4 k1 k2 k3 k4 vs n o2 kvs vs3 m3 o4 fz hc P pOff low2 low4 hT hD2 hF2 hs3 hf3 lT lF X4 nF n1 n2 n3 n4 n5 n6 n7 n8 n9 n10 n11 n12 n13 n14 n15 hsz hsz1 hsz2 hsz3 hsz4

  refine Spec.of ?_
  intro dp un gd cn cs a ccd cl outer A₀ base h₀ L m hh gn dr tk os Q E B F X N T hk hd hu hpre hret hthr
  have hB : Bind [(Str.ofString "self", Value.ref as)] := .is
  dsimp only [symR, symI, symJ] at *
  walk_at "mine enter"
  k_steps
  all_goals
   refine hret _ _ _ (keeps_of (h := hh) (by assumption) (by assumption)) ?_
   exact SyPost.mk (by assumption) (by assumption) P ⟨⟨_, rfl⟩, rfl⟩
theorem functor_count_spec (w mean mg mb) (a : SymA) (st : SymSt) (c : Nat) (sy : List (Addr × Obj)) :
    Spec w mean mg mb 145 [.ref a.s] (symR w a sy) 3 24 (SyPre w a st c sy) (SyPost w a c sy (IntV st (st.funs.length : Int))) NoExc := by
  refine Spec.pull ?_
  revert a sy
  refine sy_open ?_
  intro as ad a1 a2 a3 a4 k1 k2 k3 k4 vs n o2 kvs vs3 m3 o4 fz hc P pOff low2 low4 hT hD2 hF2 hs3 hf3 lT lF X4 nF n1 n2 n3 n4 n5 n6 n7 n8 n9 n10 n11 n12 n13 n14 n15 hsz hsz1 hsz2 hsz3 hsz4

  refine Spec.of ?_
  intro dp un gd cn cs a ccd cl outer A₀ base h₀ L m hh gn dr tk os Q E B F X N T hk hd hu hpre hret hthr
  have hB : Bind [(Str.ofString "self", Value.ref as)] := .is
  dsimp only [symR, symI, symJ] at *
  walk_at "mine enter"
  k_steps
  all_goals
   refine hret _ _ _ (keeps_of (h := hh) (by assumption) (by assumption)) ?_
   exact SyPost.mk (by assumption) (by assumption) P ⟨⟨_, rfl⟩, rfl⟩
section
theorem words_J9 : True := by
  k_with "J9 subscriptTail" => refine Hold.in ?_
  trivial
local macro_rules | `(tactic| walk_at $s) => fwd "J9 " s
theorem off_SymE : True := by
  w_top off
  trivial
theorem name_spec (w mean mg mb) (a : SymA) (st : SymSt) (c : Nat) (sy : List (Addr × Obj)) (i : Nat) (f : Int × Int) (t : Tok) (hx : st.funs[i]? = some f) :
    Spec w mean mg mb 117 [.ref a.s, .int (i : Int) t] (symR w a sy) 3 24 (SyPre w a st c sy) (SyPost w a c sy (IntV st f.1)) NoExc := by
  refine Spec.pull ?_
  revert a sy
  refine sy_open ?_
  intro as ad a1 a2 a3 a4 k1 k2 k3 k4 vs n o2 kvs vs3 m3 o4 fz hc P pOff low2 low4 hT hD2 hF2 hs3 hf3 lT lF X4 nF n1 n2 n3 n4 n5 n6 n7 n8 n9 n10 n11 n12 n13 n14 n15 hsz hsz1 hsz2 hsz3 hsz4

  refine Spec.of ?_
  intro dp un gd cn cs a ccd cl outer A₀ base h₀ L m hh gn dr tk os Q E B F X N T hk hd hu hpre hret hthr
  have hB : Bind [(Str.ofString "self", Value.ref as), (Str.ofString "functor", Value.int (i : Int) t)] := .is
  dsimp only [symR, symI, symJ] at *
  walk_at "mine enter"
  have hi : i < st.funs.length := (List.getElem?_eq_some_iff.mp hx).1
  refine let_goal ?_
  intro gl_P
  obtain ⟨fp, ft1, ft2, hvi, hfp⟩ := hf3 _ _ hx
  dsimp only [gl_P]
  clear gl_P
  k_steps
  unfold Hold
  refine sub_list (by assumption) (show (a3, W.listOf vs3 m3) ∈ _ by simp) (by walk_at "mine om") (by walk_at "mine om") (x := .ref fp) (by simpa using hvi) ?_
  k_steps
  unfold Hold
  refine sub_tup (isTup_of (News.get (by assumption) (show (fp, keyObj f.1 f.2 ft1 ft2) ∈ _ by first | walk_at "mine mem1" | simp [hfp]))) (by walk_at "mine om") (by walk_at "mine om") (x := .int f.1 ft1) rfl ?_
  k_steps
  all_goals
   refine hret _ _ _ (keeps_of (h := hh) (by assumption) (by assumption)) ?_
   exact SyPost.mk (by assumption) (by assumption) P ⟨⟨_, rfl⟩, rfl⟩
theorem arity_spec (w mean mg mb) (a : SymA) (st : SymSt) (c : Nat) (sy : List (Addr × Obj)) (i : Nat) (f : Int × Int) (t : Tok) (hx : st.funs[i]? = some f) :
    Spec w mean mg mb 124 [.ref a.s, .int (i : Int) t] (symR w a sy) 3 24 (SyPre w a st c sy) (SyPost w a c sy (IntV st f.2)) NoExc := by
  refine Spec.pull ?_
  revert a sy
  refine sy_open ?_
  intro as ad a1 a2 a3 a4 k1 k2 k3 k4 vs n o2 kvs vs3 m3 o4 fz hc P pOff low2 low4 hT hD2 hF2 hs3 hf3 lT lF X4 nF n1 n2 n3 n4 n5 n6 n7 n8 n9 n10 n11 n12 n13 n14 n15 hsz hsz1 hsz2 hsz3 hsz4

  refine Spec.of ?_
  intro dp un gd cn cs a ccd cl outer A₀ base h₀ L m hh gn dr tk os Q E B F X N T hk hd hu hpre hret hthr
  have hB : Bind [(Str.ofString "self", Value.ref as), (Str.ofString "functor", Value.int (i : Int) t)] := .is
  dsimp only [symR, symI, symJ] at *
  walk_at "mine enter"
  have hi : i < st.funs.length := (List.getElem?_eq_some_iff.mp hx).1
  refine let_goal ?_
  intro gl_P
  obtain ⟨fp, ft1, ft2, hvi, hfp⟩ := hf3 _ _ hx
  dsimp only [gl_P]
  clear gl_P
  k_steps
  unfold Hold
  refine sub_list (by assumption) (show (a3, W.listOf vs3 m3) ∈ _ by simp) (by walk_at "mine om") (by walk_at "mine om") (x := .ref fp) (by simpa using hvi) ?_
  k_steps
  unfold Hold
  refine sub_tup (isTup_of (News.get (by assumption) (show (fp, keyObj f.1 f.2 ft1 ft2) ∈ _ by first | walk_at "mine mem1" | simp [hfp]))) (by walk_at "mine om") (by walk_at "mine om") (x := .int f.2 ft2) rfl ?_
  k_steps
  all_goals
   refine hret _ _ _ (keeps_of (h := hh) (by assumption) (by assumption)) ?_
   exact SyPost.mk (by assumption) (by assumption) P ⟨⟨_, rfl⟩, rfl⟩
end
section
theorem words_J10 : True := by
  k_with "J10 exec While Compare" => (k_here; k_dflt (refine whl_start 1 ?_))
  trivial
local macro_rules | `(tactic| walk_at $s) => fwd "J10 " s
theorem off_N1 : True := by
  w_top off
  trivial
noncomputable def numT (i : Int) : Str := Txt.join (Str.ofString "") (if i < 0 then [Str.ofString "-", Str.ofString (toString (if i < 0 then -i else i))] else [Str.ofString (toString (if i < 0 then -i else i))])
theorem numT_neg {i : Int} (h : i < 0) : numT i = Txt.join (Str.ofString "") [Str.ofString "-", Str.ofString (toString (if i < 0 then -i else i))] := by unfold numT; rw [if_pos h]
theorem numT_pos {i : Int} (h : ¬i < 0) : numT i = Txt.join (Str.ofString "") [Str.ofString (toString (if i < 0 then -i else i))] := by unfold numT; rw [if_neg h]
local macro_rules | `(tactic| walk_at $s) => Lean.Macro.throwUnsupported
theorem number_text_spec (w mean mg mb) (i : Int) (t : Tok) (h0 : -1000000 < i) (h1 : i < 1000000) (hl : (Str.ofString (toString (if i < 0 then -i else i))).length ≤ 20) : Spec w mean mg mb 194 [.int i t] [] 5 60 NoPre (StrOr (some (numT i))) NoExc := by
  refine Spec.of ?_
  intro dp un gd cn cs a ccd cl outer A₀ base h₀ L m hh gn dr tk os Q E B F X N T hk hd hu hpre hret hthr
  have hB : Bind [(Str.ofString "value", Value.int i t)] := .is
  walk_at "mine enter"
  k_steps
  refine WhlIf.no (decide_eq_false ?_) ?_
  · have e : (10 : Int) ^ Int.toNat 18 = 1000000000000000000 := by decide
    rw [e]; split <;> walk_at "mine om"
  k_steps
  · refine join_revN (ys := [Str.ofString (toString (if i < 0 then -i else i)), Str.ofString "-"]) rfl (by assumption) (by assumption) (by assumption) rfl (.cons _ _ (.cons _ _ .nil)) ?_ (show (2 : Nat) ≤ sizeLine by decide) (fun h9 t9 k9 F9 => ?_)
    · have e0 : (Str.ofString "").length = 0 := rfl
      have e1 : (Str.ofString "-").length = 1 := rfl
      simp only [List.map_cons, List.map_nil, List.sum_cons, List.sum_nil, List.length_cons, List.length_nil, e0, e1]; walk_at "mine om"
    have N9 := news_nilF F9
    k_steps
    exact ret_pure hret (by assumption) (by assumption) ⟨_, _, congrArg some (numT_neg (by assumption)), rfl⟩
  · refine join_revN (ys := [Str.ofString (toString (if i < 0 then -i else i))]) rfl (by assumption) (by assumption) (by assumption) rfl (.cons _ _ .nil) ?_ (show (1 : Nat) ≤ sizeLine by decide) (fun h9 t9 k9 F9 => ?_)
    · have e0 : (Str.ofString "").length = 0 := rfl
      have e1 : (Str.ofString "-").length = 1 := rfl
      simp only [List.map_cons, List.map_nil, List.sum_cons, List.sum_nil, List.length_cons, List.length_nil, e0, e1]; walk_at "mine om"
    have N9 := news_nilF F9
    k_steps
    exact ret_pure hret (by assumption) (by assumption) ⟨_, _, congrArg some (numT_pos (by assumption)), rfl⟩
end
section
theorem words_J11 : True := by
  k_with "J11 k_all" => first | exact AllLt.off (by assumption) | exact AllLt.off (And.right (by assumption)) | exact AllLt.off (And.right (And.right (by assumption))) | exact AllLt.off (And.right (And.right (And.right (by assumption)))) | exact AllLt.off (And.right (And.right (And.right (And.right (by assumption))))) | exact AllLt.off (And.right (And.right (And.right (And.right (And.right (by assumption)))))) | exact AllLt.off (And.right (And.right (And.right (And.right (And.right (And.right (by assumption)))))))  | exact AllLt.off (And.right (And.right (And.right (And.right (And.right (And.right (And.right (by assumption))))))))  | exact AllLt.off (And.right (And.right (And.right (And.right (And.right (And.right (And.right (And.right (by assumption))))))))) 
  k_with "J11 call ref" => refine Hold.in ?_
  k_with "J11 mine off" => first | exact List.forall_mem_nil _ | (refine List.forall_mem_cons.mpr ⟨by k_all, ?_⟩; walk_at "mine off")
  k_with "J11 mine newsR" => first | exact newsR0 (by assumption) | exact newsR1 (by assumption) | exact newsR2 (by assumption) | exact newsR3 (by assumption) | exact newsR4 (by assumption)
  trivial
local macro_rules | `(tactic| k_all) => fwd1 "J11 k_all"
local macro_rules | `(tactic| walk_at $s) => fwd "J11 " s
section
theorem words_J12 : True := by
  k_with "J12 call ref" => ((with_reducible show wpAny _ _ (call (Value.ref 89) _) _ _ _); k_here; k_dflt ((refine' Spec.useSy ?kP_J12_0 (atom_spec _ _ _ _ ⟨_, _, _, _, _, _, _, _, _, _⟩ _ _ _ _ _) ?k1_J12_0 ?k2_J12_0 ?k3_J12_0 ?k4_J12_0 ?k5_J12_0 ?kK_J12_0 ?kd_J12_0 ?ku_J12_0 ?kc_J12_0 ?ko_J12_0 ?_; (case kP_J12_0 => assumption); (case k4_J12_0 => walk_at "mine newsR")); (case k1_J12_0 => k_asm); (case k2_J12_0 => k_asm); (case k3_J12_0 => k_asm); (case k5_J12_0 => k_asm); (case kK_J12_0 => first | exact rfl | assumption); (case kd_J12_0 => ktr_room); (case ku_J12_0 => ktr_units); (case kc_J12_0 => first | assumption | walk_at "mine om"); (case ko_J12_0 => walk_at "mine off"); intro v9_w h9_w tk9_w st9_w sy9_w q9_w P9_w F9_w N9_w O9_w; (refine let_goal ?_); (intro gl9_w); (obtain ⟨i9_w, t9_w, e9_w, x9_w, l9_w, f9_w⟩ := q9_w); (dsimp only [gl9_w]); (clear gl9_w); (subst e9_w); (try dsimp only [List.map_cons, List.map_nil] at O9_w); (try dsimp only [List.cons_append, List.nil_append, symR, symI, symJ] at N9_w); (try k_fold); (try k_sweep)))
  k_with "J12 call ref" => ((with_reducible show wpAny _ _ (call (Value.ref 103) _) _ _ _); k_here; k_dflt ((refine' Spec.useSy ?kP_J12_1 (functor_spec _ _ _ _ ⟨_, _, _, _, _, _, _, _, _, _⟩ _ _ _ _ _ _ _) ?k1_J12_1 ?k2_J12_1 ?k3_J12_1 ?k4_J12_1 ?k5_J12_1 ?kK_J12_1 ?kd_J12_1 ?ku_J12_1 ?kc_J12_1 ?ko_J12_1 ?_; (case kP_J12_1 => assumption); (case k4_J12_1 => walk_at "mine newsR")); (case k1_J12_1 => k_asm); (case k2_J12_1 => k_asm); (case k3_J12_1 => k_asm); (case k5_J12_1 => k_asm); (case kK_J12_1 => first | exact rfl | assumption); (case kd_J12_1 => ktr_room); (case ku_J12_1 => ktr_units); (case kc_J12_1 => first | assumption | walk_at "mine om"); (case ko_J12_1 => walk_at "mine off"); intro v9_w h9_w tk9_w st9_w sy9_w q9_w P9_w F9_w N9_w O9_w; (refine let_goal ?_); (intro gl9_w); (obtain ⟨i9_w, t9_w, e9_w, x9_w, l9_w, f9_w⟩ := q9_w); (dsimp only [gl9_w]); (clear gl9_w); (subst e9_w); (try dsimp only [List.map_cons, List.map_nil] at O9_w); (try dsimp only [List.cons_append, List.nil_append, symR, symI, symJ] at N9_w); (try k_fold); (try k_sweep)))
  trivial
local macro_rules | `(tactic| walk_at $s) => fwd "J12 " s
theorem off_SymG : True := by
  w_top off
  trivial
local macro_rules | `(tactic| walk_at $s) => Lean.Macro.throwUnsupported
theorem func_spec (w mean mg mb) (a : SymA) (st : SymSt) (c : Nat) (sy : List (Addr × Obj)) (x : Str) (j : Int) (t1 t2 : Tok) :
    Spec w mean mg mb 110 [.ref a.s, .str x t1, .int j t2] (symR w a sy) 5 60 (fun _ => SyP w a st c sy ∧ c + 1 < 10000) (SyPost w a (c + 2) sy (fun v st' => ∃ (i n : Nat) (t : Tok), v = .int (i : Int) t ∧ st'.texts[n]? = some x ∧ st'.funs[i]? = some ((n : Int), j) ∧ st.le st')) NoExc := by
  obtain ⟨as, ad, a1, a2, a3, a4, k1, k2, k3, k4⟩ := a
  refine Spec.of ?_
  intro dp un gd cn cs a ccd cl outer A₀ base h₀ L m hh gn dr tk os Q E B F X N T hk hd hu hpre hret hthr
  have hB : Bind [(Str.ofString "self", Value.ref as), (Str.ofString "text", Value.str x t1), (Str.ofString "arity", Value.int j t2)] := .is
  obtain ⟨P, hc⟩ := hpre
  dsimp only [symR, symI, symJ] at *
  walk_at "mine enter"
  k_steps
  refine hret _ _ _ (keeps_of (h := hh) (by assumption) (by assumption)) ?_
  refine SyPost.of (by assumption) (by assumption) (by assumption) ⟨_, _, _, rfl, ?_, by assumption, SymSt.le_trans (by assumption) (by assumption)⟩
  rename SymSt.texts _ = SymSt.texts _ => e9
  rw [e9]; assumption
end
section
theorem words_J13 : True := by
  k_with "J13 call ref" => ((with_reducible show wpAny _ _ (call (Value.ref 341) _) _ _ _); k_here; k_dflt (refine' Spec.useI (read_count_spec _ _ _ _ _ _ ?kx0_J13_0) ?k1_J13_0 ?k2_J13_0 ?k3_J13_0 ?k4_J13_0 ?k5_J13_0 ?kK_J13_0 ?kd_J13_0 ?ku_J13_0 ?kp_J13_0 ?_ ?_; (case kx0_J13_0 => first | assumption | walk_at "mine om" | exact And.left (‹¬ _ < _ → _ ∧ _› (by assumption)) | exact And.right (‹¬ _ < _ → _ ∧ _› (by assumption))); (case k1_J13_0 => k_asm); (case k2_J13_0 => k_asm); (case k3_J13_0 => k_asm); (case k4_J13_0 => k_asm); (case k5_J13_0 => k_asm); (case kK_J13_0 => first | exact rfl | assumption); (case kd_J13_0 => ktr_room); (case ku_J13_0 => ktr_units); (case kp_J13_0 => first | trivial | assumption); (intro n9_w t9_w h9_w tk9_w q9_w K9_w F9_w N9_w); (try k_fold); (try k_sweep); (rotate_left 1); (intro e9_w h9_w tk9_w T9_w); (rotate_left 1)))
  k_with "J13 call ref" => ((with_reducible show wpAny _ _ (call (Value.ref 306) _) _ _ _); k_here; k_dflt (refine' Spec.useS (unquoted_spec _ _ _ _ _ _ ?kx0_J13_1 ?kx1_J13_1 ?kx2_J13_1) ?k1_J13_1 ?k2_J13_1 ?k3_J13_1 ?k4_J13_1 ?k5_J13_1 ?kK_J13_1 ?kd_J13_1 ?ku_J13_1 ?kp_J13_1 ?_ ?_; (case kx0_J13_1 => first | assumption | walk_at "mine om" | exact And.left (‹¬ _ < _ → _ ∧ _› (by assumption)) | exact And.right (‹¬ _ < _ → _ ∧ _› (by assumption))); (case kx1_J13_1 => first | assumption | walk_at "mine om" | exact And.left (‹¬ _ < _ → _ ∧ _› (by assumption)) | exact And.right (‹¬ _ < _ → _ ∧ _› (by assumption))); (case kx2_J13_1 => first | assumption | walk_at "mine om" | exact And.left (‹¬ _ < _ → _ ∧ _› (by assumption)) | exact And.right (‹¬ _ < _ → _ ∧ _› (by assumption))); (case k1_J13_1 => k_asm); (case k2_J13_1 => k_asm); (case k3_J13_1 => k_asm); (case k4_J13_1 => k_asm); (case k5_J13_1 => k_asm); (case kK_J13_1 => first | exact rfl | assumption); (case kd_J13_1 => ktr_room); (case ku_J13_1 => ktr_units); (case kp_J13_1 => first | trivial | assumption); (intro n9_w t9_w h9_w tk9_w q9_w K9_w F9_w N9_w); (try k_fold); (try k_sweep); (rotate_left 1); (intro e9_w h9_w tk9_w T9_w); (rotate_left 1)))
  k_with "J13 call ref" => ((with_reducible show wpAny _ _ (call (Value.ref 89) _) _ _ _); k_here; k_dflt ((refine' Spec.useSy ?kP_J13_2 (atom_spec _ _ _ _ ⟨_, _, _, _, _, _, _, _, _, _⟩ _ _ _ _ _) ?k1_J13_2 ?k2_J13_2 ?k3_J13_2 ?k4_J13_2 ?k5_J13_2 ?kK_J13_2 ?kd_J13_2 ?ku_J13_2 ?kc_J13_2 ?ko_J13_2 ?_; (case kP_J13_2 => assumption); (case k4_J13_2 => walk_at "mine newsR")); (case k1_J13_2 => k_asm); (case k2_J13_2 => k_asm); (case k3_J13_2 => k_asm); (case k5_J13_2 => k_asm); (case kK_J13_2 => first | exact rfl | assumption); (case kd_J13_2 => ktr_room); (case ku_J13_2 => ktr_units); (case kc_J13_2 => first | assumption | walk_at "mine om"); (case ko_J13_2 => walk_at "mine off"); intro v9_w h9_w tk9_w st9_w sy9_w q9_w P9_w F9_w N9_w O9_w; (refine let_goal ?_); (intro gl9_w); (obtain ⟨i9_w, t9_w, e9_w, x9_w, l9_w, f9_w⟩ := q9_w); (dsimp only [gl9_w]); (clear gl9_w); (subst e9_w); (try dsimp only [List.map_cons, List.map_nil] at O9_w); (try dsimp only [List.cons_append, List.nil_append, symR, symI, symJ] at N9_w); (try k_fold); (try k_sweep)))
  trivial
local macro_rules | `(tactic| walk_at $s) => fwd "J13 " s
theorem off_R2 : True := by
  w_top off
  trivial
theorem read_constant_spec (w mean mg mb) (a : SymA) (st : SymSt) (c : Nat) (sy : List (Addr × Obj)) (x : Str) (t : Tok) (hx : x.length ≤ 18) (h1 : 1 ≤ x.length) (hq : (Txt.item x 0 != Str.ofString "'") = true) :
    Spec w mean mg mb 348 [.ref a.s, .str x t] (symR w a sy) 8 120 (fun _ => SyP w a st c sy ∧ c < 10000) (ConPost w a st (c + 1) sy (conS x)) (SyExc w a st (c + 1) sy (conS x = none)) := by
  obtain ⟨as, ad, a1, a2, a3, a4, k1, k2, k3, k4⟩ := a
  refine Spec.of ?_
  intro dp un gd cn cs a ccd cl outer A₀ base h₀ L m hh gn dr tk os Q E B F X N T hk hd hu hpre hret hthr
  have hB : Bind [(Str.ofString "symbols", Value.ref as), (Str.ofString "word", Value.str x t)] := .is
  obtain ⟨P, hc⟩ := hpre
  dsimp only [symR, symI, symJ] at *
  walk_at "mine enter"
  with_reducible refine' execs_join (dig0 x = false) (fun Q1 hQ1 hQ2 => ?_) (fun hdF tk9 => ?_)
  all_goals k_steps
  all_goals (try (refine hQ1 _ _ ?_; k_steps))
  all_goals
    first
      | exact hQ2 _ (by first | exact dig0_lo (by assumption) | exact dig0_hi (by assumption))
      | (refine hret _ _ _ (keeps_of (h := hh) (by assumption) (by assumption)) ?_
         first
          | exact ConPost.mk (by assumption) (by assumption) P (by walk_at "mine om") (con_num (dig0_yes (by assumption) (by assumption)) (by assumption)) (.num _) (by k_all)
          | exact ConPost.mk (by assumption) (by assumption) P (by walk_at "mine om") (con_neg (by first | assumption | exact dig0_lo (by assumption) | exact dig0_hi (by assumption)) (by assumption) (by assumption) (by assumption)) (.num _) (by k_all)
          | exact ConPost.mk (by assumption) (by assumption) (by assumption) (by walk_at "mine om") (con_atom (by first | assumption | exact dig0_lo (by assumption) | exact dig0_hi (by assumption)) (by assumption) (by assumption)) (.atom (by assumption) (by assumption) (by assumption)) (by k_all))
      | (walk_at "mine thrown"
         intro Bh hB _
         exact SyExc.new (R := []) (by assumption) (by assumption) hB (con_zero (by first | assumption | exact dig0_lo (by assumption) | exact dig0_hi (by assumption)) (by assumption) (by assumption) (by assumption)) st.le_refl P (by walk_at "mine om"))
      | (walk_at "mine thrown"
         intro Bh hB hX
         refine SyExc.up (R := []) (by assumption) (by assumption) (by assumption) hB ?_ st.le_refl P (by walk_at "mine om")
         first
          | exact con_nonum (dig0_yes (by assumption) (by assumption)) hX
          | exact con_noneg (by first | assumption | exact dig0_lo (by assumption) | exact dig0_hi (by assumption)) (by assumption) hX
          | exact con_noatom (by first | assumption | exact dig0_lo (by assumption) | exact dig0_hi (by assumption)) (by assumption) hX)
noncomputable def funS (x : Str) : Option (Str × Int) :=
  if Txt.rfind x (Str.ofString "/") < 1 then none
  else match (if alnumS (Txt.slice x none (some (Txt.rfind x (Str.ofString "/")))) = true then some (Txt.slice x none (some (Txt.rfind x (Str.ofString "/")))) else none), cntS (Txt.slice x (some (Txt.rfind x (Str.ofString "/") + 1)) none) with
    | some y, some j => some (y, j)
    | _, _ => none
noncomputable abbrev FuncV (st : SymSt) (y : Str) (j : Int) (v : Value) (st' : SymSt) : Prop := ∃ (i n : Nat) (t : Tok), v = .int (i : Int) t ∧ st'.texts[n]? = some y ∧ st'.funs[i]? = some ((n : Int), j) ∧ st.le st'
theorem fun_some {x y : Str} {j : Int} (h : ¬Txt.rfind x (Str.ofString "/") < 1) (q1 : (if alnumS (Txt.slice x none (some (Txt.rfind x (Str.ofString "/")))) = true then some (Txt.slice x none (some (Txt.rfind x (Str.ofString "/")))) else none) = some y)
    (q2 : cntS (Txt.slice x (some (Txt.rfind x (Str.ofString "/") + 1)) none) = some j) : funS x = some (y, j) := by
  unfold funS; rw [if_neg h, q1, q2]
theorem fun_no1 {x : Str} (h : Txt.rfind x (Str.ofString "/") < 1) : funS x = none := by unfold funS; rw [if_pos h]
theorem fun_no2 {x : Str} (h : ¬Txt.rfind x (Str.ofString "/") < 1) (q1 : (if alnumS (Txt.slice x none (some (Txt.rfind x (Str.ofString "/")))) = true then some (Txt.slice x none (some (Txt.rfind x (Str.ofString "/")))) else none) = none) : funS x = none := by
  unfold funS; rw [if_neg h, q1]
theorem fun_no3 {x : Str} (h : ¬Txt.rfind x (Str.ofString "/") < 1) (q2 : cntS (Txt.slice x (some (Txt.rfind x (Str.ofString "/") + 1)) none) = none) : funS x = none := by
  unfold funS; rw [if_neg h, q2]; cases (if alnumS (Txt.slice x none (some (Txt.rfind x (Str.ofString "/")))) = true then some (Txt.slice x none (some (Txt.rfind x (Str.ofString "/")))) else none) <;> rfl
end
section
theorem words_J14 : True := by
  k_with "J14 call ref" => ((with_reducible show wpAny _ _ (call (Value.ref 341) _) _ _ _); k_here; k_dflt (refine' Spec.useI (read_count_spec _ _ _ _ _ _ ?kx0_J14_0) ?k1_J14_0 ?k2_J14_0 ?k3_J14_0 ?k4_J14_0 ?k5_J14_0 ?kK_J14_0 ?kd_J14_0 ?ku_J14_0 ?kp_J14_0 ?_ ?_; (case kx0_J14_0 => first | assumption | walk_at "mine om" | exact And.left (‹¬ _ < _ → _ ∧ _› (by assumption)) | exact And.right (‹¬ _ < _ → _ ∧ _› (by assumption))); (case k1_J14_0 => k_asm); (case k2_J14_0 => k_asm); (case k3_J14_0 => k_asm); (case k4_J14_0 => k_asm); (case k5_J14_0 => k_asm); (case kK_J14_0 => first | exact rfl | assumption); (case kd_J14_0 => ktr_room); (case ku_J14_0 => ktr_units); (case kp_J14_0 => first | trivial | assumption); (intro n9_w t9_w h9_w tk9_w q9_w K9_w F9_w N9_w); (try k_fold); (try k_sweep); (rotate_left 1); (intro e9_w h9_w tk9_w T9_w); (rotate_left 1)))
  k_with "J14 call ref" => ((with_reducible show wpAny _ _ (call (Value.ref 306) _) _ _ _); k_here; k_dflt (refine' Spec.useS (unquoted_spec _ _ _ _ _ _ ?kx0_J14_1 ?kx1_J14_1 ?kx2_J14_1) ?k1_J14_1 ?k2_J14_1 ?k3_J14_1 ?k4_J14_1 ?k5_J14_1 ?kK_J14_1 ?kd_J14_1 ?ku_J14_1 ?kp_J14_1 ?_ ?_; (case kx0_J14_1 => first | assumption | walk_at "mine om" | exact And.left (‹¬ _ < _ → _ ∧ _› (by assumption)) | exact And.right (‹¬ _ < _ → _ ∧ _› (by assumption))); (case kx1_J14_1 => first | assumption | walk_at "mine om" | exact And.left (‹¬ _ < _ → _ ∧ _› (by assumption)) | exact And.right (‹¬ _ < _ → _ ∧ _› (by assumption))); (case kx2_J14_1 => first | assumption | walk_at "mine om" | exact And.left (‹¬ _ < _ → _ ∧ _› (by assumption)) | exact And.right (‹¬ _ < _ → _ ∧ _› (by assumption))); (case k1_J14_1 => k_asm); (case k2_J14_1 => k_asm); (case k3_J14_1 => k_asm); (case k4_J14_1 => k_asm); (case k5_J14_1 => k_asm); (case kK_J14_1 => first | exact rfl | assumption); (case kd_J14_1 => ktr_room); (case ku_J14_1 => ktr_units); (case kp_J14_1 => first | trivial | assumption); (intro n9_w t9_w h9_w tk9_w q9_w K9_w F9_w N9_w); (try k_fold); (try k_sweep); (rotate_left 1); (intro e9_w h9_w tk9_w T9_w); (rotate_left 1)))
  k_with "J14 call ref" => ((with_reducible show wpAny _ _ (call (Value.ref 89) _) _ _ _); k_here; k_dflt ((refine' Spec.useSy ?kP_J14_2 (atom_spec _ _ _ _ ⟨_, _, _, _, _, _, _, _, _, _⟩ _ _ _ _ _) ?k1_J14_2 ?k2_J14_2 ?k3_J14_2 ?k4_J14_2 ?k5_J14_2 ?kK_J14_2 ?kd_J14_2 ?ku_J14_2 ?kc_J14_2 ?ko_J14_2 ?_; (case kP_J14_2 => assumption); (case k4_J14_2 => walk_at "mine newsR")); (case k1_J14_2 => k_asm); (case k2_J14_2 => k_asm); (case k3_J14_2 => k_asm); (case k5_J14_2 => k_asm); (case kK_J14_2 => first | exact rfl | assumption); (case kd_J14_2 => ktr_room); (case ku_J14_2 => ktr_units); (case kc_J14_2 => first | assumption | walk_at "mine om"); (case ko_J14_2 => walk_at "mine off"); intro v9_w h9_w tk9_w st9_w sy9_w q9_w P9_w F9_w N9_w O9_w; (refine let_goal ?_); (intro gl9_w); (obtain ⟨i9_w, t9_w, e9_w, x9_w, l9_w, f9_w⟩ := q9_w); (dsimp only [gl9_w]); (clear gl9_w); (subst e9_w); (try dsimp only [List.map_cons, List.map_nil] at O9_w); (try dsimp only [List.cons_append, List.nil_append, symR, symI, symJ] at N9_w); (try k_fold); (try k_sweep)))
  k_with "J14 call ref" => ((with_reducible show wpAny _ _ (call (Value.ref 103) _) _ _ _); k_here; k_dflt ((refine' Spec.useSy ?kP_J14_3 (functor_spec _ _ _ _ ⟨_, _, _, _, _, _, _, _, _, _⟩ _ _ _ _ _ _ _) ?k1_J14_3 ?k2_J14_3 ?k3_J14_3 ?k4_J14_3 ?k5_J14_3 ?kK_J14_3 ?kd_J14_3 ?ku_J14_3 ?kc_J14_3 ?ko_J14_3 ?_; (case kP_J14_3 => assumption); (case k4_J14_3 => walk_at "mine newsR")); (case k1_J14_3 => k_asm); (case k2_J14_3 => k_asm); (case k3_J14_3 => k_asm); (case k5_J14_3 => k_asm); (case kK_J14_3 => first | exact rfl | assumption); (case kd_J14_3 => ktr_room); (case ku_J14_3 => ktr_units); (case kc_J14_3 => first | assumption | walk_at "mine om"); (case ko_J14_3 => walk_at "mine off"); intro v9_w h9_w tk9_w st9_w sy9_w q9_w P9_w F9_w N9_w O9_w; (refine let_goal ?_); (intro gl9_w); (obtain ⟨i9_w, t9_w, e9_w, x9_w, l9_w, f9_w⟩ := q9_w); (dsimp only [gl9_w]); (clear gl9_w); (subst e9_w); (try dsimp only [List.map_cons, List.map_nil] at O9_w); (try dsimp only [List.cons_append, List.nil_append, symR, symI, symJ] at N9_w); (try k_fold); (try k_sweep)))
  trivial
local macro_rules | `(tactic| walk_at $s) => fwd "J14 " s
theorem off_R3 : True := by
  w_top off
  trivial
local macro_rules | `(tactic| walk_at $s) => Lean.Macro.throwUnsupported
theorem read_functor_spec (w mean mg mb) (a : SymA) (st : SymSt) (c : Nat) (sy : List (Addr × Obj)) (x : Str) (t : Tok) (hx : x.length ≤ 18) (hf : ¬Txt.rfind x (Str.ofString "/") < 1 → 1 ≤ (Txt.slice x none (some (Txt.rfind x (Str.ofString "/")))).length ∧ (Txt.item (Txt.slice x none (some (Txt.rfind x (Str.ofString "/")))) 0 != Str.ofString "'") = true) :
    Spec w mean mg mb 355 [.ref a.s, .str x t] (symR w a sy) 8 120 (fun _ => SyP w a st c sy ∧ c + 1 < 10000) (SyPost w a (c + 2) sy fun v st' => ∃ y j, funS x = some (y, j) ∧ FuncV st y j v st') (SyExc w a st (c + 2) sy (funS x = none)) := by
  obtain ⟨as, ad, a1, a2, a3, a4, k1, k2, k3, k4⟩ := a
  refine Spec.of ?_
  intro dp un gd cn cs a ccd cl outer A₀ base h₀ L m hh gn dr tk os Q E B F X N T hk hd hu hpre hret hthr
  have hB : Bind [(Str.ofString "symbols", Value.ref as), (Str.ofString "word", Value.str x t)] := .is
  obtain ⟨P, hc⟩ := hpre
  dsimp only [symR, symI, symJ] at *
  walk_at "mine enter"
  k_steps
  · walk_at "mine thrown"
    intro Bh hB _
    exact SyExc.new (R := []) (by assumption) (by assumption) hB (fun_no1 (by assumption)) st.le_refl P (by walk_at "mine om")
  · refine hret _ _ _ (keeps_of (h := hh) (by assumption) (by assumption)) ?_
    refine SyPost.of (by assumption) (by assumption) (by assumption) ⟨_, _, fun_some (by assumption) (by assumption) (by assumption), _, _, _, rfl, ?_, by assumption, SymSt.le_trans (by assumption) (by assumption)⟩
    rename SymSt.texts _ = SymSt.texts _ => e9
    rw [e9]; assumption
  · walk_at "mine thrown"
    intro Bh hB hX
    exact SyExc.up (R := []) (by assumption) (by assumption) (by assumption) hB (fun_no3 (by assumption) hX) (by assumption) (by assumption) (by walk_at "mine om")
  · walk_at "mine thrown"
    intro Bh hB hX
    exact SyExc.up (R := []) (by assumption) (by assumption) (by assumption) hB (fun_no2 (by assumption) hX) st.le_refl P (by walk_at "mine om")
theorem off_Use2 : True := by
  w_top off
  trivial
noncomputable def SyPostO (w : World) (a : SymA) (c : Nat) (sy : List (Addr × Obj)) (R : Value → List (Addr × Obj) → SymSt → Prop) : Heap → Heap → Value → Prop := fun h h' v =>
  ∃ own st' sy', R v own st' ∧ SyP w a st' c sy' ∧ Led h h' (symR w a sy) (own ++ symR w a sy') ∧ ∀ q ∈ own, ∀ p ∈ symR w a sy', p.1 ≠ q.1
theorem SyPost.toO {w : World} {a : SymA} {c : Nat} {sy : List (Addr × Obj)} {R : Value → SymSt → Prop} {h h' : Heap} {v : Value} (x : SyPost w a c sy R h h' v) : SyPostO w a c sy (fun v own st' => own = [] ∧ R v st') h h' v :=
  by obtain ⟨st', sy', r, p, l⟩ := x; exact ⟨[], st', sy', ⟨rfl, r⟩, p, l, List.forall_mem_nil _⟩
noncomputable abbrev ConV (st : SymSt) (r : Option (Int ⊕ Str)) (v : Value) (own : List (Addr × Obj)) (st' : SymSt) : Prop := ∃ p t1 t2 d k i, r = some d ∧ v = .ref p ∧ own = [(p, keyObj k i t1 t2)] ∧ ConR st d k i st'
theorem ConPost.toO {w : World} {a : SymA} {st : SymSt} {c : Nat} {sy : List (Addr × Obj)} {r : Option (Int ⊕ Str)} {h h' : Heap} {v : Value} (x : ConPost w a st c sy r h h' v) : SyPostO w a c sy (ConV st r) h h' v := by
  obtain ⟨p, t1, t2, d, k, i, st', sy', e, ev, cr, P, l, off⟩ := x
  exact ⟨[(p, keyObj k i t1 t2)], st', sy', ⟨p, t1, t2, d, k, i, e, ev, rfl, cr⟩, P, l, List.forall_mem_cons.mpr ⟨off, fun _ h => nomatch h⟩⟩
section
variable {w : World} {mean : ExcName → Option Value} {mg mb : Str → Option Value} {f : Addr} {vs : List Value} {dn un' : Nat}
  {dp un : Nat} {gd : Option (List Code)} {cn : Str} {cs : Scope} {ca : Addr} {ccd : Value} {cl : List (Str × Addr)} {outer : List Env} {A₀ : Around} {base h₀ : Heap} {L : Addr} {m : Str → Option Value} {Q E : Value → Shared → Prop} {R : List (Addr × Obj)}
  {a : SymA} {st : SymSt} {c c' : Nat} {pc : Prop} {sy : List (Addr × Obj)} {RR : Value → List (Addr × Obj) → SymSt → Prop} {post : Heap → Heap → Value → Prop} {exc : Heap → Heap → Prop}
theorem Spec.useO {h : Heap} {gn : Array GenState} {dr : Drawn} {tk : Nat} {os : OsState} (P : SyP w a st c sy) (S : Spec w mean mg mb f vs (symR w a sy) dn un' (fun _ => SyP w a st c sy ∧ pc) post exc) (hpo : ∀ h h' v, post h h' v → SyPostO w a c' sy RR h h' v) (B : Below A₀ base outer h₀) (F : Fr h₀ L h m) (X : (Mine.hd.heap_1 w.params).In h₀) (N : News h₀ L h (R ++ symR w a sy)) (T : Top PV LO mean mg mb h₀) (hk : cs.kind = .function)
    (hd : dp + dn < recursionLimit) (hu : un + un' < cLine) (hc : pc) (off : ∀ q ∈ R, ∀ p ∈ symR w a sy, p.1 ≠ q.1)
    (ret : ∀ v h' tk' own st' sy', RR v own st' → SyP w a st' c' sy' → Fr h₀ L h' m → News h₀ L h' (R ++ (own ++ symR w a sy')) → OwnOff sy' (R.map (·.1)) → OffR R own → (∀ q ∈ own, ∀ p ∈ symR w a sy', p.1 ≠ q.1) → Q v ⟨h', gn, dr, tk', os⟩)
    (thr : ∀ e h' tk', Thrown base (envX cn cs L ca ccd cl :: outer) h ((symR w a sy).map (·.1)) exc e h' → E (.ref e) ⟨h', gn, dr, tk', os⟩) :
    wpAny (model PG w) (ktrTop dp un gd cn cs L ca ccd cl outer) (call (.ref f) vs) Q E ⟨h, gn, dr, tk, os⟩ :=
  S.use B F X N T hk hd hu (fun p hp => List.mem_append.mpr (.inr hp)) ⟨P, hc⟩ (fun v h' tk' k F' po => by
    refine let_goal ?_
    intro gl_P
    obtain ⟨own, st', sy', r, P', l, so⟩ := hpo _ _ _ po
    obtain ⟨n, o⟩ := l.both F N k off
    dsimp only [gl_P]
    clear gl_P
    refine ret v h' tk' own st' sy' r P' F' n (fun p hp b hb => ?_) (fun q hq p hp => o q hq p (List.mem_append.mpr (.inl hp))) so
    obtain ⟨q, hq, e⟩ := List.mem_map.mp hb
    rw [← e]; exact o q hq p (by first | walk_at "mine mem1" | simp [hp])) thr
theorem Spec.useReg {r : Option (Str × Int)} {h : Heap} {gn : Array GenState} {dr : Drawn} {tk : Nat} {os : OsState} {news : List (Addr × Obj)} {pre : Heap → Prop} (S : Spec w mean mg mb f vs [] dn un' pre (RegPost r) exc) (B : Below A₀ base outer h₀) (F : Fr h₀ L h m) (X : (Mine.hd.heap_1 w.params).In h₀) (N : News h₀ L h news) (T : Top PV LO mean mg mb h₀) (hk : cs.kind = .function)
    (hd : dp + dn < recursionLimit) (hu : un + un' < cLine) (hp : pre h)
    (ret : ∀ p t1 t2 y i h' tk', r = some (y, i) → Fr h₀ L h' m → News h₀ L h' ((p, { cls := .type "tuple", data := .seq #[.str y t1, .int i t2] }) :: news) → OwnOff news [p] → Q (.ref p) ⟨h', gn, dr, tk', os⟩)
    (thr : ∀ e h' tk', Thrown base (envX cn cs L ca ccd cl :: outer) h (([] : List (Addr × Obj)).map (·.1)) exc e h' → E (.ref e) ⟨h', gn, dr, tk', os⟩) :
    wpAny (model PG w) (ktrTop dp un gd cn cs L ca ccd cl outer) (call (.ref f) vs) Q E ⟨h, gn, dr, tk, os⟩ :=
  S.use B F X N T hk hd hu (fun _ h => nomatch h) hp (fun v h' tk' k F' po => by
    refine let_goal ?_
    intro gl_P
    obtain ⟨p, t1, t2, y, i, e, ev, l⟩ := po
    dsimp only [gl_P]
    clear gl_P
    subst ev
    refine ret p t1 t2 y i h' tk' e F' ?_ ?_
    · intro q hq
      rcases List.mem_cons.mp hq with rfl | hq
      · exact l.toN F (fun _ h => nomatch h) _ (.head _)
      · exact news_keeps0 N k q hq
    · intro q hq b hb e'
      simp only [List.mem_singleton] at hb
      subst hb
      rcases (l _ (.head _)).2 with z | z
      · have := (N q hq).1
        rw [e'] at this
        rw [show h.get? b = none from z] at this; cases this
      · cases z) thr
end
theorem SyExc.upS {w : World} {h h' g Bh : Heap} {a : SymA} {st st' : SymSt} {c c' : Nat} {L' : Addr} {m' : Str → Option Value} {sy sy' news : List (Addr × Obj)} {C C' : Prop} (HG : Keeps h g ((symR w a sy).map (·.1))) (F' : Fr g L' h' m') (N : News g L' h' news) (hm : ∀ p ∈ symR w a sy', p ∈ news)
    (x : SyExc w a st' c' sy' C' h' Bh) (hC : C' → C) (hl : st.le st') (hc : c' ≤ c) : SyExc w a st c sy C h Bh :=
  by obtain ⟨q, st'', sy'', l, P, led⟩ := x; exact ⟨hC q, st'', sy'', SymSt.le_trans hl l, P.more hc, led_up HG F' N hm led⟩
inductive Opd
  | reg (y : Str) (i : Int)
  | con (d : Int ⊕ Str)
  | fn (y : Str) (j : Int)
  | num (i : Int)
  | tabT (l : List ((Int ⊕ Str) × Int))
  | tabU (l : List ((Str × Int) × Int))
noncomputable abbrev regObj (y : Str) (i : Int) (t1 t2 : Tok) : Obj := { cls := .type "tuple", data := .seq #[.str y t1, .int i t2] }
inductive ConIs (st : SymSt) : Int ⊕ Str → Int → Int → Prop
  | num (i : Int) : ConIs st (.inl i) 5 i
  | atom {n : Nat} {y : Str} : st.texts[n]? = some y → ConIs st (.inr y) 4 (n : Int)
theorem ConR.is {st st' : SymSt} {d : Int ⊕ Str} {k i : Int} (x : ConR st d k i st') : ConIs st' d k i := by
  cases x with
  | num i => exact .num i
  | atom h _ _ => exact .atom h
theorem ConR.le {st st' : SymSt} {d : Int ⊕ Str} {k i : Int} (x : ConR st d k i st') : st.le st' := by
  cases x with
  | num i => exact st.le_refl
  | atom _ h _ => exact h
theorem prefix_get {α : Type} {l l' : List α} (h : l <+: l') {i : Nat} {x : α} (e : l[i]? = some x) : l'[i]? = some x := by
  obtain ⟨r, rfl⟩ := h
  have := (List.getElem?_eq_some_iff.mp e).1
  rw [List.getElem?_append_left this]; exact e
inductive FunIs (st : SymSt) : Str × Int → Int → Prop
  | mk {y : Str} {j : Int} {i n : Nat} : st.texts[n]? = some y → st.funs[i]? = some ((n : Int), j) → FunIs st (y, j) (i : Int)
inductive TabK (st : SymSt) : List ((Int ⊕ Str) × Int) → List (List Int × Addr × Value) → List (Addr × Obj) → Prop
  | nil : TabK st [] [] []
  | snoc {l : List ((Int ⊕ Str) × Int)} {xs : List (List Int × Addr × Value)} {ks : List (Addr × Obj)} {d : Int ⊕ Str} {k i v : Int} (p : Addr) (t t1 t2 : Tok) : TabK st l xs ks → ConIs st d k i → TabK st (l ++ [(d, v)]) (xs ++ [([k, i], p, .int v t)]) ((p, keyObj k i t1 t2) :: ks)
noncomputable def TabT (w : World) (st : SymSt) (o : Obj) (l : List ((Int ⊕ Str) × Int)) (ks : List (Addr × Obj)) : Prop :=
  ∃ es ep xs, o.ExactDict ∧ o.data = .dict es ep ∧ es.toList = xs.map (entryOfKey (tupleKind (intKind PG w))) ∧ (xs.map (·.1)).Nodup ∧ TabK st l xs ks
inductive TabF (st : SymSt) : List ((Str × Int) × Int) → List (Int × Int) → Prop
  | nil : TabF st [] []
  | snoc {l : List ((Str × Int) × Int)} {l' : List (Int × Int)} {f : Str × Int} {i v : Int} : TabF st l l' → FunIs st f i → TabF st (l ++ [(f, v)]) (l' ++ [(i, v)])
noncomputable abbrev tabD (l : List (Int × Int)) : List (PyData × PyData) := l.map fun q => (PyData.int q.1, PyData.int q.2)
noncomputable def TabU (w : World) (st : SymSt) (o : Obj) (l : List ((Str × Int) × Int)) : Prop :=
  ∃ kvs l', o.IsDictOf (intKind PG w) kvs ∧ PyProof.V.FlatPairs PyData.int kvs (tabD l') ∧ (l'.map (·.1)).Nodup ∧ TabF st l l'
inductive OpV (w : World) (st : SymSt) : Opd → Value → List (Addr × Obj) → Prop
  | reg (y : Str) (i : Int) (p : Addr) (t1 t2 : Tok) : OpV w st (.reg y i) (.ref p) [(p, regObj y i t1 t2)]
  | con {d : Int ⊕ Str} {k i : Int} (p : Addr) (t1 t2 : Tok) : ConIs st d k i → OpV w st (.con d) (.ref p) [(p, keyObj k i t1 t2)]
  | fn {y : Str} {j : Int} {i n : Nat} (t : Tok) : st.texts[n]? = some y → st.funs[i]? = some ((n : Int), j) → OpV w st (.fn y j) (.int (i : Int) t) []
  | num (i : Int) (t : Tok) : OpV w st (.num i) (.int i t) []
  | tabT {l : List ((Int ⊕ Str) × Int)} {ks : List (Addr × Obj)} (D : Addr) (o : Obj) : (D == sysModules) = false → TabT w st o l ks → OpV w st (.tabT l) (.ref D) ((D, o) :: ks)
  | tabU {l : List ((Str × Int) × Int)} (D : Addr) (o : Obj) : (D == sysModules) = false → TabU w st o l → OpV w st (.tabU l) (.ref D) [(D, o)]
theorem ConIs.le {st st' : SymSt} (l : st.le st') {d : Int ⊕ Str} {k i : Int} (x : ConIs st d k i) : ConIs st' d k i := by
  cases x with
  | num i => exact .num i
  | atom h => exact .atom (prefix_get l.1 h)
theorem FunIs.le {st st' : SymSt} (l : st.le st') {f : Str × Int} {i : Int} (x : FunIs st f i) : FunIs st' f i := by
  cases x with
  | mk h1 h2 => exact .mk (prefix_get l.1 h1) (prefix_get l.2 h2)
theorem TabK.le {st st' : SymSt} (q : st.le st') {l : List ((Int ⊕ Str) × Int)} {xs : List (List Int × Addr × Value)} {ks : List (Addr × Obj)} (x : TabK st l xs ks) : TabK st' l xs ks := by
  induction x with
  | nil => exact .nil
  | snoc p t t1 t2 _ h ih => exact .snoc p t t1 t2 ih (h.le q)
theorem TabF.le {st st' : SymSt} (q : st.le st') {l : List ((Str × Int) × Int)} {l' : List (Int × Int)} (x : TabF st l l') : TabF st' l l' := by
  induction x with
  | nil => exact .nil
  | snoc _ h ih => exact .snoc ih (h.le q)
theorem OpV.le {w : World} {st st' : SymSt} (l : st.le st') {d : Opd} {v : Value} {own : List (Addr × Obj)} (x : OpV w st d v own) : OpV w st' d v own := by
  cases x with
  | reg y i p t1 t2 => exact .reg y i p t1 t2
  | con p t1 t2 h => exact .con p t1 t2 (h.le l)
  | fn t h1 h2 => exact .fn t (prefix_get l.1 h1) (prefix_get l.2 h2)
  | num i t => exact .num i t
  | tabT D o h x => obtain ⟨es, ep, xs, a, b, c, d, e⟩ := x; exact .tabT D o h ⟨es, ep, xs, a, b, c, d, e.le l⟩
  | tabU D o h x => obtain ⟨kvs, l', a, b, c, d⟩ := x; exact .tabU D o h ⟨kvs, l', a, b, c, d.le l⟩
noncomputable def readS (k x : Str) : Option Opd :=
  if k == Str.ofString "R" || k == Str.ofString "X" || k == Str.ofString "Y" then (regS x).map fun p => .reg p.1 p.2
  else if k == Str.ofString "C" then (conS x).map .con
  else if k == Str.ofString "F" then (funS x).map fun p => .fn p.1 p.2
  else (cntS x).map .num
noncomputable abbrev OpRR (w : World) (st : SymSt) (r : Option Opd) (v : Value) (own : List (Addr × Obj)) (st' : SymSt) : Prop := ∃ d, r = some d ∧ OpV w st' d v own ∧ st.le st'
structure WordOk (x : Str) : Prop where
  long : x.length ≤ 18
  pos : 1 ≤ x.length
  quote : (Txt.item x 0 != Str.ofString "'") = true
  slash : ¬Txt.rfind x (Str.ofString "/") < 1 → 1 ≤ (Txt.slice x none (some (Txt.rfind x (Str.ofString "/")))).length ∧ (Txt.item (Txt.slice x none (some (Txt.rfind x (Str.ofString "/")))) 0 != Str.ofString "'") = true
theorem SyPostO.mk {w : World} {h h' g : Heap} {a : SymA} {c c' : Nat} {L' : Addr} {sy sy' : List (Addr × Obj)} {R : Value → List (Addr × Obj) → SymSt → Prop} {v : Value} {st' : SymSt} (own : List (Addr × Obj)) (HG : Keeps h g ((symR w a sy).map (·.1))) (N : News g L' h' (own ++ symR w a sy')) (P : SyP w a st' c' sy') (hc : c' ≤ c) (hR : R v own st') (so : ∀ q ∈ own, ∀ p ∈ symR w a sy', p.1 ≠ q.1) : SyPostO w a c sy R h h' v :=
  ⟨own, st', sy', hR, P.more hc, led_of HG N, so⟩
section
variable {k x y : Str} {i j : Int} {d : Int ⊕ Str}
noncomputable abbrev regK (k : Str) : Bool := k == Str.ofString "R" || k == Str.ofString "X" || k == Str.ofString "Y"
theorem readS_reg (h : regK k = true) (r : regS x = some (y, i)) : readS k x = some (.reg y i) := by unfold readS; rw [if_pos h, r]; rfl
theorem readS_con (h : regK k = false) (hc : (k == Str.ofString "C") = true) (r : conS x = some d) : readS k x = some (.con d) := by unfold readS; rw [if_neg (show ¬regK k = true by rw [h]; decide), if_pos hc, r]; rfl
theorem readS_fn (h : regK k = false) (hc : (k == Str.ofString "C") = false) (hf : (k == Str.ofString "F") = true) (r : funS x = some (y, j)) : readS k x = some (.fn y j) := by unfold readS; rw [if_neg (show ¬regK k = true by rw [h]; decide), if_neg (by rw [hc]; decide), if_pos hf, r]; rfl
theorem readS_num (h : regK k = false) (hc : (k == Str.ofString "C") = false) (hf : (k == Str.ofString "F") = false) (r : cntS x = some i) : readS k x = some (.num i) := by unfold readS; rw [if_neg (show ¬regK k = true by rw [h]; decide), if_neg (by rw [hc]; decide), if_neg (by rw [hf]; decide), r]; rfl
end
theorem off_Use3 : True := by
  w_top off
  trivial
section
variable {w : World} {mean : ExcName → Option Value} {mg mb : Str → Option Value} {f : Addr} {vs : List Value} {dn un' : Nat}
  {dp un : Nat} {gd : Option (List Code)} {cn : Str} {cs : Scope} {ca : Addr} {ccd : Value} {cl : List (Str × Addr)} {outer : List Env} {A₀ : Around} {base h₀ : Heap} {L : Addr} {m : Str → Option Value} {Q E : Value → Shared → Prop} {R : List (Addr × Obj)}
  {a : SymA} {st : SymSt} {c c' : Nat} {sy : List (Addr × Obj)} {RR : Value → List (Addr × Obj) → SymSt → Prop} {post : Heap → Heap → Value → Prop} {exc : Heap → Heap → Prop}
theorem Spec.useOh {pre : Heap → Prop} {h : Heap} {gn : Array GenState} {dr : Drawn} {tk : Nat} {os : OsState} (S : Spec w mean mg mb f vs (symR w a sy) dn un' pre post exc) (hpo : ∀ h h' v, post h h' v → SyPostO w a c' sy RR h h' v) (B : Below A₀ base outer h₀) (F : Fr h₀ L h m) (X : (Mine.hd.heap_1 w.params).In h₀) (N : News h₀ L h (R ++ symR w a sy)) (T : Top PV LO mean mg mb h₀) (hk : cs.kind = .function)
    (hd : dp + dn < recursionLimit) (hu : un + un' < cLine) (hp : pre h) (off : ∀ q ∈ R, ∀ p ∈ symR w a sy, p.1 ≠ q.1)
    (ret : ∀ v h' tk' own st' sy', RR v own st' → SyP w a st' c' sy' → Fr h₀ L h' m → News h₀ L h' (R ++ (own ++ symR w a sy')) → OwnOff sy' (R.map (·.1)) → OffR R own → (∀ q ∈ own, ∀ p ∈ symR w a sy', p.1 ≠ q.1) → Q v ⟨h', gn, dr, tk', os⟩)
    (thr : ∀ e h' tk', Thrown base (envX cn cs L ca ccd cl :: outer) h ((symR w a sy).map (·.1)) exc e h' → E (.ref e) ⟨h', gn, dr, tk', os⟩) :
    wpAny (model PG w) (ktrTop dp un gd cn cs L ca ccd cl outer) (call (.ref f) vs) Q E ⟨h, gn, dr, tk, os⟩ :=
  S.use B F X N T hk hd hu (fun p hp => List.mem_append.mpr (.inr hp)) hp (fun v h' tk' k F' po => by
    refine let_goal ?_
    intro gl_P
    obtain ⟨own, st', sy', r, P', l, so⟩ := hpo _ _ _ po
    obtain ⟨n, o⟩ := l.both F N k off
    dsimp only [gl_P]
    clear gl_P
    refine ret v h' tk' own st' sy' r P' F' n (fun p hp b hb => ?_) (fun q hq p hp => o q hq p (List.mem_append.mpr (.inl hp))) so
    obtain ⟨q, hq, e⟩ := List.mem_map.mp hb
    rw [← e]; exact o q hq p (by first | walk_at "mine mem1" | simp [hp])) thr
end
noncomputable def SpecTop (w : World) (mean : ExcName → Option Value) (mg mb : Str → Option Value) (f : Addr) (vs : List Value) (news : List (Addr × Obj)) (dn un' : Nat) (pre : Heap → Prop) (post : Value → List (Addr × Obj) → Prop) : Prop :=
  ∀ (dp un : Nat) (gd : Option (List Code)) (cn : Str) (cs : Scope) (a : Addr) (ccd : Value) (A₀ : Around) (base h₀ : Heap) (L : Addr) (m : Str → Option Value) (s : Shared) (Q E : Value → Shared → Prop),
    Below A₀ base [] h₀ → Fr h₀ L s.heap m → (Mine.hd.heap_1 w.params).In h₀ → (Mine.hd.heap_1 w.params).In base → News h₀ L s.heap news → Top PV LO mean mg mb h₀ → Top PV LO mean mg mb base → cs.kind = .function → dp + dn < recursionLimit → un + un' < cLine → pre s.heap →
    (∀ v h' tk' news', Fr h₀ L h' m → News h₀ L h' news' → post v news' → Q v { s with heap := h', toks := tk' }) →
    wpAny (model PG w) (ktrTop dp un gd cn cs L a ccd [] []) (call (.ref f) vs) Q E s
theorem caught_led {A : Around} {base g h Bh : Heap} {outer : List Env} {name : Str} {scope : Scope} {fa L' : Addr} {cd : Value} {m' : Str → Option Value} {R mu new : List (Addr × Obj)} (B' : Below A base outer g) (F' : Fr g L' h m') (N : News g L' h (R ++ mu)) (off : ∀ q ∈ R, ∀ p ∈ mu, p.1 ≠ q.1)
    (hk : ∀ b o, h.get? b = some o → b ∉ mu.map (·.1) → b ∉ (envOf name scope L' fa cd :: outer).filterMap (·.frame) → Bh.get? b = some o) (x : Led h Bh mu new) : ∀ p ∈ R ++ new, Bh.get? p.1 = some p.2 ∧ g.get? p.1 = none := fun p hp => by
  rcases List.mem_append.mp hp with hp | hp
  · have z := N p (List.mem_append.mpr (.inl hp))
    refine ⟨hk _ _ z.1 (fun q => ?_) (led_frames B' N p (List.mem_append.mpr (.inl hp))), z.2.2⟩
    obtain ⟨r, hr, e⟩ := List.mem_map.mp q
    exact off p hp r hr e
  · obtain ⟨g1, g2⟩ := x p hp
    refine ⟨g1, ?_⟩
    rcases g2 with g2 | g2
    · cases q : g.get? p.1 with
      | none => rfl
      | some o => have := F'.keep _ _ q; rw [g2] at this; cases this
    · obtain ⟨r, hr, e⟩ := List.mem_map.mp g2
      rw [← e]; exact (N r (List.mem_append.mpr (.inr hr))).2.2
theorem news_offL {g h : Heap} {L' : Addr} {R mu : List (Addr × Obj)} (N : News g L' h (R ++ mu)) : L' ∉ mu.map (·.1) := fun q => by
  obtain ⟨r, hr, e⟩ := List.mem_map.mp q
  exact (N r (List.mem_append.mpr (.inr hr))).2.1 e
theorem news_offg {g h : Heap} {L' : Addr} {R mu : List (Addr × Obj)} (N : News g L' h (R ++ mu)) : ∀ b o, g.get? b = some o → b ∉ mu.map (·.1) := fun b o e q => by
  obtain ⟨r, hr, e'⟩ := List.mem_map.mp q
  have := (N r (List.mem_append.mpr (.inr hr))).2.2
  rw [e', e] at this; cases this
end
section
theorem words_J15 : True := by
  k_with "J15 call ref" => ((with_reducible show wpAny _ _ (call (Value.ref 341) _) _ _ _); k_here; k_dflt (refine' Spec.useI (read_count_spec _ _ _ _ _ _ ?kx0_J15_0) ?k1_J15_0 ?k2_J15_0 ?k3_J15_0 ?k4_J15_0 ?k5_J15_0 ?kK_J15_0 ?kd_J15_0 ?ku_J15_0 ?kp_J15_0 ?_ ?_; (case kx0_J15_0 => first | assumption | walk_at "mine om" | exact And.left (‹¬ _ < _ → _ ∧ _› (by assumption)) | exact And.right (‹¬ _ < _ → _ ∧ _› (by assumption))); (case k1_J15_0 => k_asm); (case k2_J15_0 => k_asm); (case k3_J15_0 => k_asm); (case k4_J15_0 => k_asm); (case k5_J15_0 => k_asm); (case kK_J15_0 => first | exact rfl | assumption); (case kd_J15_0 => ktr_room); (case ku_J15_0 => ktr_units); (case kp_J15_0 => first | trivial | assumption); (intro n9_w t9_w h9_w tk9_w q9_w K9_w F9_w N9_w); (try k_fold); (try k_sweep); (rotate_left 1); (intro e9_w h9_w tk9_w T9_w); (rotate_left 1)))
  k_with "J15 call ref" => ((with_reducible show wpAny _ _ (call (Value.ref 362) _) _ _ _); k_here; k_dflt (refine' Spec.useReg (read_register_spec _ _ _ _ _ _ ?kx0_J15_1 ?kx1_J15_1) ?k1_J15_1 ?k2_J15_1 ?k3_J15_1 ?k4_J15_1 ?k5_J15_1 ?kK_J15_1 ?kd_J15_1 ?ku_J15_1 ?kp_J15_1 ?_ ?_; (case kx0_J15_1 => assumption); (case kx1_J15_1 => assumption); (case k1_J15_1 => k_asm); (case k2_J15_1 => k_asm); (case k3_J15_1 => k_asm); (case k4_J15_1 => k_asm); (case k5_J15_1 => k_asm); (case kK_J15_1 => first | exact rfl | assumption); (case kd_J15_1 => ktr_room); (case ku_J15_1 => ktr_units); (case kp_J15_1 => first | trivial | assumption); (intro p9_w t9_w u9_w y9_w i9_w h9_w tk9_w r9_w F9_w N9_w O9_w); (try k_fold); (try k_sweep); (rotate_left 1); (intro e9_w h9_w tk9_w T9_w); (rotate_left 1)))
  k_with "J15 call ref" => ((with_reducible show wpAny _ _ (call (Value.ref 348) _) _ _ _); k_here; k_dflt ((refine' Spec.useO ?kP_J15_2 (read_constant_spec _ _ _ _ ⟨_, _, _, _, _, _, _, _, _, _⟩ _ _ _ _ _ ?kx0_J15_2 ?kx1_J15_2 ?kx2_J15_2) (fun _ _ _ z_w => ConPost.toO z_w) ?k1_J15_2 ?k2_J15_2 ?k3_J15_2 ?k4_J15_2 ?k5_J15_2 ?kK_J15_2 ?kd_J15_2 ?ku_J15_2 ?kc_J15_2 ?ko_J15_2 ?_ ?_; (case kP_J15_2 => assumption); (case k4_J15_2 => walk_at "mine newsR")); (case kx0_J15_2 => first | assumption | walk_at "mine om" | (simp only [*]; done)); (case kx1_J15_2 => first | assumption | walk_at "mine om" | (simp only [*]; done)); (case kx2_J15_2 => first | assumption | walk_at "mine om" | (simp only [*]; done)); (case k1_J15_2 => k_asm); (case k2_J15_2 => k_asm); (case k3_J15_2 => k_asm); (case k5_J15_2 => k_asm); (case kK_J15_2 => first | exact rfl | assumption); (case kd_J15_2 => ktr_room); (case ku_J15_2 => ktr_units); (case kc_J15_2 => first | assumption | walk_at "mine om"); (case ko_J15_2 => walk_at "mine off"); intro v9_w h9_w tk9_w own9_w st9_w sy9_w q9_w P9_w F9_w N9_w O9_w D9_w S9_w; (refine let_goal ?_); (intro gl9_w); (obtain ⟨p9_w, t9_w, u9_w, d9_w, j9_w, i9_w, r9_w, e9_w, eo9_w, x9_w⟩ := q9_w); (dsimp only [gl9_w]); (clear gl9_w); (subst e9_w); (subst eo9_w); (try dsimp only [List.map_cons, List.map_nil] at O9_w); (try simp only [List.forall_mem_cons, List.not_mem_nil, false_implies, implies_true, and_true] at D9_w); (try dsimp only [List.cons_append, List.nil_append, symR, symI, symJ] at N9_w); (try k_fold); (try k_sweep); (rotate_left 1); (intro e9_w h9_w tk9_w T9_w); (rotate_left 1)))
  k_with "J15 call ref" => ((with_reducible show wpAny _ _ (call (Value.ref 355) _) _ _ _); k_here; k_dflt ((refine' Spec.useO ?kP_J15_3 (read_functor_spec _ _ _ _ ⟨_, _, _, _, _, _, _, _, _, _⟩ _ _ _ _ _ ?kx0_J15_3 ?kx1_J15_3) (fun _ _ _ z_w => SyPost.toO z_w) ?k1_J15_3 ?k2_J15_3 ?k3_J15_3 ?k4_J15_3 ?k5_J15_3 ?kK_J15_3 ?kd_J15_3 ?ku_J15_3 ?kc_J15_3 ?ko_J15_3 ?_ ?_; (case kP_J15_3 => assumption); (case k4_J15_3 => walk_at "mine newsR")); (case kx0_J15_3 => first | assumption | walk_at "mine om" | (simp only [*]; done)); (case kx1_J15_3 => first | assumption | walk_at "mine om" | (simp only [*]; done)); (case k1_J15_3 => k_asm); (case k2_J15_3 => k_asm); (case k3_J15_3 => k_asm); (case k5_J15_3 => k_asm); (case kK_J15_3 => first | exact rfl | assumption); (case kd_J15_3 => ktr_room); (case ku_J15_3 => ktr_units); (case kc_J15_3 => first | assumption | walk_at "mine om"); (case ko_J15_3 => walk_at "mine off"); intro v9_w h9_w tk9_w own9_w st9_w sy9_w q9_w P9_w F9_w N9_w O9_w D9_w S9_w; (refine let_goal ?_); (intro gl9_w); (obtain ⟨eo9_w, y9_w, j9_w, r9_w, i9_w, n9_w, t9_w, e9_w, a9_w, b9_w, l9_w⟩ := q9_w); (dsimp only [gl9_w]); (clear gl9_w); (subst eo9_w); (subst e9_w); (try dsimp only [List.map_cons, List.map_nil] at O9_w); (try simp only [List.forall_mem_cons, List.not_mem_nil, false_implies, implies_true, and_true] at D9_w); (try dsimp only [List.cons_append, List.nil_append, symR, symI, symJ] at N9_w); (try k_fold); (try k_sweep); (rotate_left 1); (intro e9_w h9_w tk9_w T9_w); (rotate_left 1)))
  trivial
local macro_rules | `(tactic| walk_at $s) => fwd "J15 " s
theorem off_R4 : True := by
  w_top off
  trivial
theorem read_operand_spec (w mean mg mb) (a : SymA) (st : SymSt) (c : Nat) (sy : List (Addr × Obj)) (x k : Str) (t u : Tok) (hw : WordOk x) :
    Spec w mean mg mb 376 [.ref a.s, .str x t, .str k u] (symR w a sy) 12 240 (fun _ => SyP w a st c sy ∧ c + 1 < 10000) (SyPostO w a (c + 2) sy (OpRR w st (readS k x))) (SyExc w a st (c + 2) sy (readS k x = none)) := by
  obtain ⟨as, ad, a1, a2, a3, a4, k1, k2, k3, k4⟩ := a
  refine Spec.of ?_
  intro dp un gd cn cs a ccd cl outer A₀ base h₀ L m hh gn dr tk os Q E B F X N T hk hd hu hpre hret hthr
  have hB : Bind [(Str.ofString "symbols", Value.ref as), (Str.ofString "word", Value.str x t), (Str.ofString "kind", Value.str k u)] := .is
  obtain ⟨P, hc⟩ := hpre
  dsimp only [symR, symI, symJ] at *
  refine let_goal ?_
  intro gl_P
  obtain ⟨hx, h1, hq, hf⟩ := hw
  dsimp only [gl_P]
  clear gl_P
  walk_at "mine enter"
  k_steps
  all_goals first
    | (refine hret _ _ _ (keeps_of (h := hh) (by assumption) (by assumption)) ?_
       first
        | exact SyPostO.mk [_] (by assumption) (by assumption) P (by walk_at "mine om") ⟨_, readS_reg (by simp [regK, *]) (by assumption), .reg _ _ _ _ _, st.le_refl⟩ (by first | assumption | exact List.forall_mem_cons.mpr ⟨fun p hp => ‹OwnOff _ _› p hp _ (.head _), fun _ h => nomatch h⟩)
        | exact SyPostO.mk [_] (by assumption) (by assumption) (by assumption) (by walk_at "mine om") ⟨_, readS_con (by simp [regK, *]) (by assumption) (by assumption), .con _ _ _ (ConR.is (by assumption)), ConR.le (by assumption)⟩ (by first | assumption | exact List.forall_mem_cons.mpr ⟨fun p hp => ‹OwnOff _ _› p hp _ (.head _), fun _ h => nomatch h⟩)
        | exact SyPostO.mk [] (by assumption) (by assumption) (by assumption) (by walk_at "mine om") ⟨_, readS_fn (by simp [regK, *]) (by assumption) (by assumption) (by assumption), .fn _ (by assumption) (by assumption), by assumption⟩ (fun _ h => nomatch h)
        | exact SyPostO.mk [] (by assumption) (by assumption) P (by walk_at "mine om") ⟨_, readS_num (by simp [regK, *]) (by assumption) (by assumption) (by assumption), .num _ _, st.le_refl⟩ (fun _ h => nomatch h))
    | (walk_at "mine thrown"
       intro Bh hB hX
       first
        | exact SyExc.up (R := []) (by assumption) (by assumption) (by assumption) hB (by simp only [NoneExc] at hX; simp [readS, *]) st.le_refl P (by walk_at "mine om")
        | exact SyExc.upS (by assumption) (by assumption) (by assumption) (by first | walk_at "mine mem1" | simp) hX (fun q => by simp [readS, *]) st.le_refl (by walk_at "mine om"))
theorem off_Tab1 : True := by
  w_top off
  trivial
noncomputable def hasK {α : Type} [DecidableEq α] (l : List (α × Int)) (d : α) : Bool := l.any fun q => decide (q.1 = d)
theorem hasK_iff {α : Type} [DecidableEq α] {l : List (α × Int)} {d : α} : hasK l d = true ↔ d ∈ l.map Prod.fst := by
  unfold hasK
  rw [List.any_eq_true, List.mem_map]
  constructor
  · rintro ⟨q, hq, e⟩; exact ⟨q, hq, by simpa using e⟩
  · rintro ⟨q, hq, e⟩; exact ⟨q, hq, by simpa using e⟩
theorem nodup_idx {α : Type} {l : List α} (h : l.Nodup) {i j : Nat} {x : α} (hi : l[i]? = some x) (hj : l[j]? = some x) : i = j := by
  obtain ⟨a1, b1⟩ := List.getElem?_eq_some_iff.mp hi
  obtain ⟨a2, b2⟩ := List.getElem?_eq_some_iff.mp hj
  exact (List.getElem_inj h).mp (b1.trans b2.symm)
theorem con_fun {st : SymSt} {d d' : Int ⊕ Str} {k i : Int} (x : ConIs st d k i) (y : ConIs st d' k i) : d = d' := by
  cases x with
  | num i => cases y with
    | num => rfl
  | @atom n z h => 
    generalize e : (n : Int) = j at y
    cases y with
    | @atom n' z' h' =>
      have : n = n' := by walk_at "mine om"
      subst this
      rw [h] at h'; cases h'; rfl
theorem con_inj {st : SymSt} (hn : st.texts.Nodup) {d : Int ⊕ Str} {k i k' i' : Int} (x : ConIs st d k i) (y : ConIs st d k' i') : k = k' ∧ i = i' := by
  cases x with
  | num i => cases y with
    | num => exact ⟨rfl, rfl⟩
  | @atom n z h => cases y with
    | @atom n' z' h' => exact ⟨rfl, by rw [nodup_idx hn h h']⟩
theorem fun_fun {st : SymSt} {f f' : Str × Int} {i : Int} (x : FunIs st f i) (y : FunIs st f' i) : f = f' := by
  cases x with
  | @mk y1 j n m h1 h2 =>
    generalize e : (n : Int) = q at y
    cases y with
    | @mk y2 j2 n2 m2 h3 h4 =>
      have : n = n2 := by walk_at "mine om"
      subst this
      rw [h2] at h4
      simp only [Option.some.injEq, Prod.mk.injEq] at h4
      have : m = m2 := by walk_at "mine om"
      subst this
      rw [h1] at h3; cases h3
      rw [h4.2]
theorem fun_inj {st : SymSt} (hT : st.texts.Nodup) (hF : st.funs.Nodup) {f : Str × Int} {i i' : Int} (x : FunIs st f i) (y : FunIs st f i') : i = i' := by
  cases x with
  | @mk y1 j n m h1 h2 => cases y with
    | @mk _ _ n2 m2 h3 h4 =>
      rw [nodup_idx hT h1 h3] at h2
      rw [nodup_idx hF h2 h4]
theorem atKey_mem {xs : List (List Int × Addr × Value)} {k : List Int} : (atKey xs k).isSome = decide (k ∈ xs.map (·.1)) := by
  cases q : xs.find? fun x => decide (x.1 = k) with
  | none =>
    have h := List.find?_eq_none.mp q
    have : k ∉ xs.map (·.1) := fun hm => by
      obtain ⟨x, hx, e⟩ := List.mem_map.mp hm
      exact h x hx (by simp [e])
    simp only [atKey, q, this]; rfl
  | some x =>
    have hx := List.mem_of_find?_eq_some q
    have hk : x.1 = k := by simpa using List.find?_some q
    have : k ∈ xs.map (·.1) := List.mem_map.mpr ⟨x, hx, hk⟩
    simp only [atKey, q, this]; rfl
theorem TabK.mem {st : SymSt} (hT : st.texts.Nodup) {l : List ((Int ⊕ Str) × Int)} {xs : List (List Int × Addr × Value)} {ks : List (Addr × Obj)} (x : TabK st l xs ks) {d : Int ⊕ Str} {k i : Int} (hd : ConIs st d k i) :
    [k, i] ∈ xs.map (·.1) ↔ d ∈ l.map Prod.fst := by
  induction x with
  | nil => simp
  | @snoc l xs ks d' k' i' v p t t1 t2 x' hd' ih =>
    have : ([k, i] = [k', i']) ↔ (d = d') := by
      constructor
      · intro q
        simp only [List.cons.injEq, and_true] at q
        obtain ⟨rfl, rfl⟩ := q
        exact con_fun hd hd'
      · rintro rfl
        obtain ⟨rfl, rfl⟩ := con_inj hT hd hd'
        rfl
    rw [List.map_append, List.map_append, List.mem_append, List.mem_append, ih]
    simp only [List.map_cons, List.map_nil, List.mem_singleton, this]
theorem TabK.at {st : SymSt} (hT : st.texts.Nodup) {l : List ((Int ⊕ Str) × Int)} {xs : List (List Int × Addr × Value)} {ks : List (Addr × Obj)} (x : TabK st l xs ks) {d : Int ⊕ Str} {k i : Int} (hd : ConIs st d k i) :
    (atKey xs [k, i]).isSome = hasK l d := by
  rw [atKey_mem, Bool.eq_iff_iff, decide_eq_true_iff, hasK_iff]; exact x.mem hT hd
theorem TabK.keys {st : SymSt} {l : List ((Int ⊕ Str) × Int)} {xs : List (List Int × Addr × Value)} {ks : List (Addr × Obj)} (x : TabK st l xs ks) : ∀ y ∈ xs, ∃ i j t1 t2, y.1 = [i, j] ∧ (y.2.1, keyObj i j t1 t2) ∈ ks := by
  induction x with
  | nil => exact fun _ h => nomatch h
  | @snoc l xs ks d k i v p t t1 t2 _ _ ih =>
    intro y hy
    rcases List.mem_append.mp hy with hy | hy
    · obtain ⟨i', j', u1, u2, e, m⟩ := ih y hy
      exact ⟨i', j', u1, u2, e, .tail _ m⟩
    · simp only [List.mem_singleton] at hy; subst hy; exact ⟨k, i, t1, t2, rfl, .head _⟩
theorem TabK.len {st : SymSt} {l : List ((Int ⊕ Str) × Int)} {xs : List (List Int × Addr × Value)} {ks : List (Addr × Obj)} (x : TabK st l xs ks) : xs.length = l.length := by
  induction x with
  | nil => rfl
  | snoc _ _ _ _ _ _ ih => simp [ih]
section
variable {w : World} {A : Around} {E : Value → Shared → Prop} {s : Shared} {st : SymSt} {o : Obj} {l : List ((Int ⊕ Str) × Int)} {ks news rest : List (Addr × Obj)} {D p : Addr} {d : Int ⊕ Str} {k i v : Int} {t t1 t2 : Tok} {h h₀ : Heap} {L : Addr} {m : Str → Option Value}
theorem TabT.dict (x : TabT w st o l ks) (N : News h₀ L h news) (hD : (D, o) ∈ news) (hk : ∀ q ∈ ks, q ∈ news) : ∃ xs, h.DictOfH (tupleKind (intKind PG w)) D xs ∧ TabK st l xs ks :=
  by
  obtain ⟨es, ep, xs, e1, e2, e3, e4, e5⟩ := x
  refine ⟨xs, ⟨o, es, ep, N.get hD, e1, e2, e3, fun y hy => ?_, e4⟩, e5⟩
  refine let_goal ?_
  intro gl_P
  obtain ⟨i, j, t1, t2, e, mm⟩ := e5.keys y hy
  dsimp only [gl_P]
  clear gl_P
  rw [e]; exact tupKey_of (N.get (hk _ mm))
theorem in_tabT {Q : Value → Shared → Prop} (x : TabT w st o l ks) (N : News h₀ L s.heap news) (hD : (D, o) ∈ news) (hk : ∀ q ∈ ks, q ∈ news) (hp : (p, keyObj k i t1 t2) ∈ news) (hT : st.texts.Nodup) (hd : ConIs st d k i) (low : (D == sysModules) = false) (hu : A.units + 1 < cLine)
    (h : Q (.bool (hasK l d)) { s with toks := s.toks + 3 }) : wpAny (model PG w) A (compareOp .In (.ref p) (.ref D)) Q E s := by
  obtain ⟨xs, hd', e⟩ := x.dict N hD hk
  refine wpAny_in_heap (knd := tupleKind (intKind PG w)) (k := [k, i]) (tupleKind_room_in1 hu) (tupKey_of (N.get hp)) low hd' ?_
  rw [e.at hT hd]; exact h
theorem set_tabT {Q : Unit → Shared → Prop} (x : TabT w st o l ks) (F : Fr h₀ L s.heap m) (N : News h₀ L s.heap ((D, o) :: rest)) (hr : ∀ q ∈ rest, q.1 ≠ D) (hk : ∀ q ∈ ks, q ∈ rest) (hp : (p, keyObj k i t1 t2) ∈ rest) (hT : st.texts.Nodup) (hd : ConIs st d k i) (hno : hasK l d = false) (hz : l.length ≤ 10000) (hu : A.units + 1 < cLine)
    (h : ∀ h' o', Fr h₀ L h' m → News h₀ L h' ((D, o') :: rest) → TabT w st o' (l ++ [(d, v)]) ((p, keyObj k i t1 t2) :: ks) → Q () { s with heap := h', toks := s.toks + 3 }) :
    wpAny (model PG w) A (setItem (.ref D) (.ref p) (.int v t)) Q E s := by
  obtain ⟨xs, hd', e⟩ := x.dict N (.head _) (fun q hq => .tail _ (hk q hq))
  have hz' : xs.length ≤ sizeLine := by rw [e.len]; exact Nat.le_trans hz (by decide)
  have hnone : atKey xs [k, i] = none := by
    have := e.at hT hd
    rw [hno] at this
    cases q : atKey xs [k, i] with
    | none => rfl
    | some y => rw [q] at this; cases this
  refine wpAny_setItem_heap (hsz := hz') (knd := tupleKind (intKind PG w)) (tupleKind_room_in1 hu) (tupKey_of (N.get (.tail _ hp))) hd' fun h' hm' hs => ?_
  refine let_goal ?_
  intro gl_P
  obtain ⟨o', es', ep', ho', hc', hd', he', hi', hn'⟩ := hm'
  dsimp only [gl_P]
  clear gl_P
  rw [storedH_new hnone] at he' hn'
  exact h h' o' (F.change hs (N _ (.head _)).2.1 (N.fresh (.head _))) (news_set (pre := []) N (fun _ q => nomatch q) hr hs ho') ⟨es', ep', _, hc', hd', he', hn', .snoc p t t1 t2 e hd⟩
end
theorem look_tabD (i : Int) : ∀ l' : List (Int × Int), (PySem.Spec.lookup (.int i) (tabD l')).isSome = decide (i ∈ l'.map Prod.fst) := by
  intro l'
  induction l' with
  | nil => rfl
  | cons x r ih =>
    obtain ⟨j, v⟩ := x
    by_cases e : j = i
    · subst e; simp [PySem.Spec.lookup, PyProof.V.same_int]
    · have := ih
      simp only [List.map_cons, List.mem_cons] at this ⊢
      simp [PySem.Spec.lookup, PyProof.V.same_int, e, Ne.symm e]
      simpa using this
theorem TabF.mem {st : SymSt} (hT : st.texts.Nodup) (hF : st.funs.Nodup) {l : List ((Str × Int) × Int)} {l' : List (Int × Int)} (x : TabF st l l') {f : Str × Int} {i : Int} (hf : FunIs st f i) : i ∈ l'.map Prod.fst ↔ f ∈ l.map Prod.fst := by
  induction x with
  | nil => simp
  | @snoc l l' f' i' v x' hf' ih =>
    have : i = i' ↔ f = f' := by
      constructor
      · rintro rfl; exact fun_fun hf hf'
      · rintro rfl; exact fun_inj hT hF hf hf'
    rw [List.map_append, List.map_append, List.mem_append, List.mem_append, ih]
    simp only [List.map_cons, List.map_nil, List.mem_singleton, this]
theorem TabF.at {st : SymSt} (hT : st.texts.Nodup) (hF : st.funs.Nodup) {l : List ((Str × Int) × Int)} {l' : List (Int × Int)} (x : TabF st l l') {f : Str × Int} {i : Int} (hf : FunIs st f i) : (PySem.Spec.lookup (.int i) (tabD l')).isSome = hasK l f := by
  rw [look_tabD, Bool.eq_iff_iff, decide_eq_true_iff, hasK_iff]; exact x.mem hT hF hf
theorem put_tabD {i v : Int} {l' : List (Int × Int)} (h : (PySem.Spec.lookup (.int i) (tabD l')).isSome = false) : PyProof.V.putD (.int i) (.int v) (tabD l') = tabD (l' ++ [(i, v)]) := by
  rw [PyProof.Rows.putD_absent (by cases q : PySem.Spec.lookup (.int i) (tabD l') with | none => rfl | some y => rw [q] at h; cases h)]
  simp [tabD]
theorem TabF.len {st : SymSt} {l : List ((Str × Int) × Int)} {l' : List (Int × Int)} (x : TabF st l l') : l'.length = l.length := by
  induction x with
  | nil => rfl
  | snoc _ _ ih => simp [ih]
theorem tabU_snoc {w : World} {st : SymSt} (hT : st.texts.Nodup) (hF : st.funs.Nodup) {l : List ((Str × Int) × Int)} {l' : List (Int × Int)} {o' : Obj} {kvs : List (Int × Value)} {f : Str × Int} {i v : Int} (x : TabF st l l') (hn : (l'.map (·.1)).Nodup) (hf : FunIs st f i) (hno : hasK l f = false) (hD : o'.IsDictOf (intKind PG w) kvs) (hP : PyProof.V.FlatPairs PyData.int kvs (PyProof.V.putD (.int i) (.int v) (tabD l'))) : TabU w st o' (l ++ [(f, v)]) := by
  have e := x.at hT hF hf
  rw [hno] at e
  rw [put_tabD e] at hP
  refine ⟨kvs, _, hD, hP, ?_, .snoc x hf⟩
  rw [List.map_append, List.nodup_append]
  refine ⟨hn, by simp, fun a ha b hb => ?_⟩
  simp only [List.map_cons, List.map_nil, List.mem_singleton] at hb
  subst hb
  rintro rfl
  have := (x.mem hT hF hf).mp ha
  rw [← hasK_iff, hno] at this; cases this
end
end
section
theorem words_J16 : True := by
  k_with "J16 mine enterS" => (refine wpAny_call ?_; k_dflt (refine' code_defS0 ?k1_J16_0 ?k2_J16_0 ?k3_J16_0 ?k4_J16_0 ?k5_J16_0 ?kA_J16_0 ?k6_J16_0 ?k7_J16_0 ?k8_J16_0 ?k9_J16_0 ?kB_J16_0 ?_ ?kk_J16_0 ?c2_J16_0 ?c3_J16_0 ?c4_J16_0 ?c5_J16_0; (case kA_J16_0 => exact rfl); (case k1_J16_0 => k_asm); (case k3_J16_0 => assumption); (case k2_J16_0 => k_asm); (case k4_J16_0 => k_asm); (case k5_J16_0 => k_asm); (case k6_J16_0 => k_is); (case k7_J16_0 => k_is); (case k8_J16_0 => ktr_room); (case k9_J16_0 => first | exact BindsTo.of_eq rfl | exact binds_K (by k_in) rfl (by k_is) rfl rfl rfl); (case kk_J16_0 => first | exact rfl | assumption); (case c5_J16_0 => decide); (case kB_J16_0 => exact locs rfl); (case c2_J16_0 => exact rfl); (case c3_J16_0 => exact rfl); (case c4_J16_0 => exact rfl); k_whole; intro g_w L_w h_w FG_w F_w N_w B_w X_w T_w D_w; (try dsimp only [List.reverse, List.reverseAux] at F_w); (try dsimp only); (try k_fold)))
  trivial
local macro_rules | `(tactic| walk_at $s) => fwd "J16 " s
theorem off_LR : True := by
  w_top off
  trivial
theorem led_off {g h Bh : Heap} {L : Addr} {R mu new : List (Addr × Obj)} (N : News g L h (R ++ mu)) (off : ∀ q ∈ R, ∀ p ∈ mu, p.1 ≠ q.1) (x : Led h Bh mu new) : ∀ q ∈ R, ∀ p ∈ new, p.1 ≠ q.1 := fun q hq p hp e => by
  have z := (N q (List.mem_append.mpr (.inl hq))).1
  rcases (x p hp).2 with w | w
  · rw [show p.1 = q.1 from e, z] at w; cases w
  · obtain ⟨r, hr, e'⟩ := List.mem_map.mp w
    exact off q hq r hr (e'.trans e)
theorem offs_all {w : World} {a : SymA} {R own sy sy' : List (Addr × Obj)} (off : ∀ q ∈ R, ∀ p ∈ symR w a sy, p.1 ≠ q.1) (O9 : OwnOff sy' (R.map (·.1))) (D9 : OffR R own) : ∀ q ∈ R, ∀ p ∈ own ++ symR w a sy', p.1 ≠ q.1 := fun q hq p hp => by
  rcases List.mem_append.mp hp with hp | hp
  · exact D9 q hq p hp
  · simp only [symR, List.mem_cons] at hp
    rcases hp with h | h | h
    · exact h ▸ off q hq _ (.head _)
    · exact h ▸ off q hq _ (.tail _ (.head _))
    · exact O9 p h _ (List.mem_map.mpr ⟨q, hq, rfl⟩)
theorem law_read_of (w mean mg mb) (a : SymA) (st : SymSt) (c c' : Nat) (sy R : List (Addr × Obj)) (wl F : Addr) (C : Prop) (pre : Heap → Prop) (RR : Value → List (Addr × Obj) → SymSt → Prop) (hP : SyP w a st c sy)
    (S : Spec w mean mg mb 383 [.ref a.s, .ref wl, .ref F] (symR w a sy) 24 440 pre (SyPostO w a c' sy RR) (SyExc w a st c' sy C)) (off : ∀ q ∈ R, ∀ p ∈ symR w a sy, p.1 ≠ q.1) (hpn : ∀ h₀ L h, News h₀ L h (R ++ symR w a sy) → pre h) :
    SpecTop w mean mg mb 425 [.ref a.s, .ref wl, .ref F] (R ++ symR w a sy) 28 480 pre (fun v news' => ∃ own st' sy', SyP w a st' c' sy' ∧ news' = R ++ (own ++ symR w a sy') ∧ (∀ q ∈ R, ∀ p ∈ own ++ symR w a sy', p.1 ≠ q.1) ∧ (∀ q ∈ own, ∀ p ∈ symR w a sy', p.1 ≠ q.1) ∧ ((own = [] ∧ v = .none ∧ C ∧ st.le st') ∨ RR v own st')) := by
  intro dp un gd cn cs ca ccd A₀ base h₀ L m ⟨hh, gn, dr, tk, os⟩ Q E B F0 X XB N T TB hk hd hu hpre hret
  have hB : Bind [(Str.ofString "signs", Value.ref a.s), (Str.ofString "words", Value.ref wl), (Str.ofString "forms", Value.ref F)] := .is
  walk_at "mine enterS"
  k_steps
  refine' Spec.useOh (R := R) S (fun _ _ _ z => z) ?k1 ?k2 ?k3 ?k4 ?k5 ?kK ?kd ?ku ?kp off ?_ ?_
  case k1 => k_asm
  case k2 => k_asm
  case k3 => k_asm
  case k4 => assumption
  case k5 => k_asm
  case kK => first | exact rfl | assumption
  case kd => ktr_room
  case ku => ktr_units
  case kp => exact hpn _ _ _ (by assumption)
  · intro v9 h9 tk9 own9 st9 sy9 q9 P9 F9 N9 O9 D9 S9
    (try k_fold)
    (try k_sweep)
    k_steps
    exact hret _ _ _ _ (by assumption) (by assumption) ⟨own9, st9, sy9, P9, rfl, offs_all off O9 D9, S9, .inr q9⟩
  · intro e9 h9 tk9 T9
    k_steps
    refine caught_LF T9 (by assumption) (by assumption) (news_offL (by assumption)) (news_offg (by assumption)) XB TB (by assumption) ?ex ?q (fun h8 g8 Bh T8 F8 B8 X8 Tp8 D8 hx hkp hnew => ?_)
    case ex => k_is
    case q => first | k_is | rfl | decide +kernel
    refine let_goal ?_
    intro gl_P
    obtain ⟨hC, st8, sy8, le8, P8, led8⟩ := hx
    dsimp only [gl_P]
    clear gl_P
    have hR8 := led_off (by assumption) off led8
    have N8 := hnew _ (caught_led (by assumption) (by assumption) (by assumption) off hkp led8)
    clear hnew hkp T9
    k_steps
    exact hret _ _ _ _ (by assumption) (by assumption) ⟨[], st8, sy8, P8, rfl, hR8, (fun _ h => nomatch h), .inl ⟨rfl, rfl, hC, le8⟩⟩
end
section
theorem words_J17 : True := by
  k_with "J17 call builtin:isinstance" => (k_here; k_dflt (first | refine isi_tup (Fr.tup (by assumption) (by assumption)) ?_ | refine isi_dict (Fr.keep (by assumption) _ _ (by assumption)) (by assumption) ?_))
  k_with "J17 mine held" => first | trivial | exact Fr.tup (by assumption) (by assumption) | exact News.isTup (by k_asm) (by k_mem) | (with_unfolding_all exact Fr.tup (by k_asm) (tupK (by k_asm) (by k_is))) | (refine And.intro ?_ ?_; walk_at "mine held"; walk_at "mine held")
  k_with "J17 subscriptTail" => ((with_reducible show wpAny _ _ (subscriptTail _ _ (Value.ref _) (Value.int _ _)) _ _ _); k_dflt (refine item_tupleL (News.isTup (by assumption) (by walk_at "mine mem1")) (by decide) (by decide) (by rfl) (by rfl) ?_))
  trivial
local macro_rules | `(tactic| walk_at $s) => fwd "J17 " s
section
theorem words_J18 : True := by
  k_with "J18 subscriptTail" => ((with_reducible show wpAny _ _ (subscriptTail _ _ (Value.ref _) (Value.int _ _)) _ _ _); k_dflt (refine item_tupleL (Fr.tup (by assumption) (by assumption)) (by decide) (by decide) (by rfl) (by rfl) ?_))
  trivial
local macro_rules | `(tactic| walk_at $s) => fwd "J18 " s
theorem off_C1 : True := by
  w_top off
  trivial
section
theorem is_whole_int (w mean mg mb) (i : Int) (t : Tok) : Spec w mean mg mb 215 [.int i t] [] 3 24 NoPre (IsV (.bool true)) NoExc := by
  refine Spec.of ?_
  intro dp un gd cn cs a ccd cl outer A₀ base h₀ L m hh gn dr tk os Q E B F X N T hk hd hu hpre hret hthr
  have hB : Bind [(Str.ofString "value", Value.int i t)] := .is
  walk_at "mine enter"
  k_steps
  exact ret_pure hret (by assumption) (by assumption) rfl
theorem is_pair_tup (w mean mg mb) (p : Addr) (v1 v2 : Value) : Spec w mean mg mb 222 [.ref p] [] 3 24 (fun h => IsTup h p #[v1, v2]) (IsV (.bool true)) NoExc := by
  refine Spec.of ?_
  intro dp un gd cn cs a ccd cl outer A₀ base h₀ L m hh gn dr tk os Q E B F X N T hk hd hu hpre hret hthr
  have hB : Bind [(Str.ofString "value", Value.ref p)] := .is
  walk_at "mine enter"
  have ht := Keeps.tup0 (by assumption) hpre
  k_steps
  exact ret_pure hret (by assumption) (by assumption) rfl
theorem words_J19 : True := by
  k_with "J19 call ref" => (k_here; k_dflt (refine' Spec.useV (is_whole_int _ _ _ _ _ _) ?k1_J19_0 ?k2_J19_0 ?k3_J19_0 ?k4_J19_0 ?k5_J19_0 ?kK_J19_0 ?kd_J19_0 ?ku_J19_0 ?_; (case k1_J19_0 => k_asm); (case k2_J19_0 => k_asm); (case k3_J19_0 => k_asm); (case k4_J19_0 => k_asm); (case k5_J19_0 => k_asm); (case kK_J19_0 => first | exact rfl | assumption); (case kd_J19_0 => ktr_room); (case ku_J19_0 => ktr_units); intro h9_w tk9_w K9_w F9_w N9_w; (try k_fold); (try k_sweep)))
  k_with "J19 call ref" => (k_here; k_dflt (refine' Spec.useP (is_pair_tup _ _ _ _ _ _ _) ?k1_J19_1 ?k2_J19_1 ?k3_J19_1 ?k4_J19_1 ?k5_J19_1 ?kK_J19_1 ?kd_J19_1 ?ku_J19_1 ?kp_J19_1 ?_; (case kp_J19_1 => walk_at "mine held"); (case k1_J19_1 => k_asm); (case k2_J19_1 => k_asm); (case k3_J19_1 => k_asm); (case k4_J19_1 => k_asm); (case k5_J19_1 => k_asm); (case kK_J19_1 => first | exact rfl | assumption); (case kd_J19_1 => ktr_room); (case ku_J19_1 => ktr_units); intro h9_w tk9_w K9_w F9_w N9_w; (try k_fold); (try k_sweep)))
  trivial
local macro_rules | `(tactic| walk_at $s) => fwd "J19 " s
theorem is_register_reg1 (w mean mg mb) (p q : Addr) (y n1 : Str) (i : Int) (t1 t2 w1 : Tok) : Spec w mean mg mb 229 [.ref p, .ref q] [] 6 60 (fun h => IsTup h p #[.str y t1, .int i t2] ∧ IsTup h q #[.str n1 w1]) (IsV (.bool (([n1].any fun x => x == y) && decide (1 ≤ i)))) NoExc := by
  refine Spec.of ?_
  intro dp un gd cn cs a ccd cl outer A₀ base h₀ L m hh gn dr tk os Q E B F X N T hk hd hu hpre hret hthr
  have hB : Bind [(Str.ofString "value", Value.ref p), (Str.ofString "names", Value.ref q)] := .is
  walk_at "mine enter"
  have ht := Keeps.tup0 (by assumption) hpre.1
  have hn := Keeps.tup0 (by assumption) hpre.2
  k_steps
  all_goals exact ret_pure hret (by assumption) (by assumption) (by simp [IsV, *])
theorem is_register_reg2 (w mean mg mb) (p q : Addr) (y n1 n2 : Str) (i : Int) (t1 t2 w1 w2 : Tok) : Spec w mean mg mb 229 [.ref p, .ref q] [] 6 60 (fun h => IsTup h p #[.str y t1, .int i t2] ∧ IsTup h q #[.str n1 w1, .str n2 w2]) (IsV (.bool (([n1, n2].any fun x => x == y) && decide (1 ≤ i)))) NoExc := by
  refine Spec.of ?_
  intro dp un gd cn cs a ccd cl outer A₀ base h₀ L m hh gn dr tk os Q E B F X N T hk hd hu hpre hret hthr
  have hB : Bind [(Str.ofString "value", Value.ref p), (Str.ofString "names", Value.ref q)] := .is
  walk_at "mine enter"
  have ht := Keeps.tup0 (by assumption) hpre.1
  have hn := Keeps.tup0 (by assumption) hpre.2
  k_steps
  all_goals exact ret_pure hret (by assumption) (by assumption) (by simp [IsV, *])
theorem is_constant_con (w mean mg mb) (p : Addr) (k i : Int) (t1 t2 : Tok) (hki : k = 5 ∨ (k = 4 ∧ 0 ≤ i)) : Spec w mean mg mb 236 [.ref p] [] 6 60 (fun h => IsTup h p #[.int k t1, .int i t2]) (IsV (.bool true)) NoExc := by
  refine Spec.of ?_
  intro dp un gd cn cs a ccd cl outer A₀ base h₀ L m hh gn dr tk os Q E B F X N T hk hd hu hpre hret hthr
  have hB : Bind [(Str.ofString "value", Value.ref p)] := .is
  walk_at "mine enter"
  have ht := Keeps.tup0 (by assumption) hpre
  rcases hki with rfl | ⟨rfl, hi⟩
  · k_steps
    all_goals exact ret_pure hret (by assumption) (by assumption) (by simp [IsV, *])
  · k_steps
    all_goals exact ret_pure hret (by assumption) (by assumption) (by simp [IsV, *])
theorem is_functor_int (w mean mg mb) (i : Int) (t : Tok) : Spec w mean mg mb 243 [.int i t] [] 6 60 NoPre (IsV (.bool (decide (0 ≤ i)))) NoExc := by
  refine Spec.of ?_
  intro dp un gd cn cs a ccd cl outer A₀ base h₀ L m hh gn dr tk os Q E B F X N T hk hd hu hpre hret hthr
  have hB : Bind [(Str.ofString "value", Value.int i t)] := .is
  walk_at "mine enter"
  k_steps
  all_goals exact ret_pure hret (by assumption) (by assumption) (by simp [IsV, *])
theorem is_target_int (w mean mg mb) (i : Int) (t : Tok) : Spec w mean mg mb 250 [.int i t, .bool true] [] 6 60 NoPre (IsV (.bool (decide (0 ≤ i)))) NoExc := by
  refine Spec.of ?_
  intro dp un gd cn cs a ccd cl outer A₀ base h₀ L m hh gn dr tk os Q E B F X N T hk hd hu hpre hret hthr
  have hB : Bind [(Str.ofString "value", Value.int i t), (Str.ofString "linked", Value.bool true)] := .is
  walk_at "mine enter"
  k_steps
  all_goals exact ret_pure hret (by assumption) (by assumption) (by simp [IsV, *])
theorem words_J20 : True := by
  k_with "J20 call ref" => (k_here; k_dflt (refine' Spec.useV (is_functor_int _ _ _ _ _ _) ?k1_J20_0 ?k2_J20_0 ?k3_J20_0 ?k4_J20_0 ?k5_J20_0 ?kK_J20_0 ?kd_J20_0 ?ku_J20_0 ?_; (case k1_J20_0 => k_asm); (case k2_J20_0 => k_asm); (case k3_J20_0 => k_asm); (case k4_J20_0 => k_asm); (case k5_J20_0 => k_asm); (case kK_J20_0 => first | exact rfl | assumption); (case kd_J20_0 => ktr_room); (case ku_J20_0 => ktr_units); intro h9_w tk9_w K9_w F9_w N9_w; (try k_fold); (try k_sweep)))
  k_with "J20 call ref" => (k_here; k_dflt (refine' Spec.useV (is_target_int _ _ _ _ _ _) ?k1_J20_1 ?k2_J20_1 ?k3_J20_1 ?k4_J20_1 ?k5_J20_1 ?kK_J20_1 ?kd_J20_1 ?ku_J20_1 ?_; (case k1_J20_1 => k_asm); (case k2_J20_1 => k_asm); (case k3_J20_1 => k_asm); (case k4_J20_1 => k_asm); (case k5_J20_1 => k_asm); (case kK_J20_1 => first | exact rfl | assumption); (case kd_J20_1 => ktr_room); (case ku_J20_1 => ktr_units); intro h9_w tk9_w K9_w F9_w N9_w; (try k_fold); (try k_sweep)))
  k_with "J20 call ref" => (k_here; k_dflt (refine' Spec.useP (is_constant_con _ _ _ _ _ _ _ _ _ ?kx0_J20_2) ?k1_J20_2 ?k2_J20_2 ?k3_J20_2 ?k4_J20_2 ?k5_J20_2 ?kK_J20_2 ?kd_J20_2 ?ku_J20_2 ?kp_J20_2 ?_; (case kp_J20_2 => walk_at "mine held"); (case kx0_J20_2 => first | assumption | walk_at "mine om"); (case k1_J20_2 => k_asm); (case k2_J20_2 => k_asm); (case k3_J20_2 => k_asm); (case k4_J20_2 => k_asm); (case k5_J20_2 => k_asm); (case kK_J20_2 => first | exact rfl | assumption); (case kd_J20_2 => ktr_room); (case ku_J20_2 => ktr_units); intro h9_w tk9_w K9_w F9_w N9_w; (try k_fold); (try k_sweep)))
  trivial
local macro_rules | `(tactic| walk_at $s) => fwd "J20 " s
theorem is_key_con (w mean mg mb) (p : Addr) (k i : Int) (t1 t2 u : Tok) (hki : k = 5 ∨ (k = 4 ∧ 0 ≤ i)) : Spec w mean mg mb 257 [.ref p, .str (Str.ofString "T") u] [] 9 100 (fun h => IsTup h p #[.int k t1, .int i t2]) (IsV (.bool true)) NoExc := by
  refine Spec.of ?_
  intro dp un gd cn cs a ccd cl outer A₀ base h₀ L m hh gn dr tk os Q E B F X N T hk hd hu hpre hret hthr
  have hB : Bind [(Str.ofString "value", Value.ref p), (Str.ofString "kind", Value.str (Str.ofString "T") u)] := .is
  walk_at "mine enter"
  have ht := Keeps.tup0 (by assumption) hpre
  k_steps
  all_goals exact ret_pure hret (by assumption) (by assumption) (by simp [IsV, *])
theorem is_key_int (w mean mg mb) (i : Int) (t u : Tok) : Spec w mean mg mb 257 [.int i t, .str (Str.ofString "U") u] [] 9 100 NoPre (IsV (.bool (decide (0 ≤ i)))) NoExc := by
  refine Spec.of ?_
  intro dp un gd cn cs a ccd cl outer A₀ base h₀ L m hh gn dr tk os Q E B F X N T hk hd hu hpre hret hthr
  have hB : Bind [(Str.ofString "value", Value.int i t), (Str.ofString "kind", Value.str (Str.ofString "U") u)] := .is
  walk_at "mine enter"
  k_steps
  all_goals exact ret_pure hret (by assumption) (by assumption) (by simp [IsV, *])
end
end
section
theorem words_J21 : True := by
  k_with "J21 call ref" => (k_here; k_dflt (refine' Spec.useP (is_register_reg1 _ _ _ _ _ _ _ _ _ _ _ _) ?k1_J21_0 ?k2_J21_0 ?k3_J21_0 ?k4_J21_0 ?k5_J21_0 ?kK_J21_0 ?kd_J21_0 ?ku_J21_0 ?kp_J21_0 ?_; (case kp_J21_0 => walk_at "mine held"); (case k1_J21_0 => k_asm); (case k2_J21_0 => k_asm); (case k3_J21_0 => k_asm); (case k4_J21_0 => k_asm); (case k5_J21_0 => k_asm); (case kK_J21_0 => first | exact rfl | assumption); (case kd_J21_0 => ktr_room); (case ku_J21_0 => ktr_units); intro h9_w tk9_w K9_w F9_w N9_w; (try k_fold); (try k_sweep)))
  k_with "J21 call ref" => (k_here; k_dflt (refine' Spec.useP (is_register_reg2 _ _ _ _ _ _ _ _ _ _ _ _ _ _) ?k1_J21_1 ?k2_J21_1 ?k3_J21_1 ?k4_J21_1 ?k5_J21_1 ?kK_J21_1 ?kd_J21_1 ?ku_J21_1 ?kp_J21_1 ?_; (case kp_J21_1 => walk_at "mine held"); (case k1_J21_1 => k_asm); (case k2_J21_1 => k_asm); (case k3_J21_1 => k_asm); (case k4_J21_1 => k_asm); (case k5_J21_1 => k_asm); (case kK_J21_1 => first | exact rfl | assumption); (case kd_J21_1 => ktr_room); (case ku_J21_1 => ktr_units); intro h9_w tk9_w K9_w F9_w N9_w; (try k_fold); (try k_sweep)))
  k_with "J21 call ref" => (k_here; k_dflt (refine' Spec.useP (is_constant_con _ _ _ _ _ _ _ _ _ ?kx0_J21_2) ?k1_J21_2 ?k2_J21_2 ?k3_J21_2 ?k4_J21_2 ?k5_J21_2 ?kK_J21_2 ?kd_J21_2 ?ku_J21_2 ?kp_J21_2 ?_; (case kp_J21_2 => walk_at "mine held"); (case kx0_J21_2 => first | assumption | walk_at "mine om"); (case k1_J21_2 => k_asm); (case k2_J21_2 => k_asm); (case k3_J21_2 => k_asm); (case k4_J21_2 => k_asm); (case k5_J21_2 => k_asm); (case kK_J21_2 => first | exact rfl | assumption); (case kd_J21_2 => ktr_room); (case ku_J21_2 => ktr_units); intro h9_w tk9_w K9_w F9_w N9_w; (try k_fold); (try k_sweep)))
  k_with "J21 call ref" => (k_here; k_dflt (refine' Spec.useV (is_functor_int _ _ _ _ _ _) ?k1_J21_3 ?k2_J21_3 ?k3_J21_3 ?k4_J21_3 ?k5_J21_3 ?kK_J21_3 ?kd_J21_3 ?ku_J21_3 ?_; (case k1_J21_3 => k_asm); (case k2_J21_3 => k_asm); (case k3_J21_3 => k_asm); (case k4_J21_3 => k_asm); (case k5_J21_3 => k_asm); (case kK_J21_3 => first | exact rfl | assumption); (case kd_J21_3 => ktr_room); (case ku_J21_3 => ktr_units); intro h9_w tk9_w K9_w F9_w N9_w; (try k_fold); (try k_sweep)))
  k_with "J21 call ref" => (k_here; k_dflt (refine' Spec.useV (is_target_int _ _ _ _ _ _) ?k1_J21_4 ?k2_J21_4 ?k3_J21_4 ?k4_J21_4 ?k5_J21_4 ?kK_J21_4 ?kd_J21_4 ?ku_J21_4 ?_; (case k1_J21_4 => k_asm); (case k2_J21_4 => k_asm); (case k3_J21_4 => k_asm); (case k4_J21_4 => k_asm); (case k5_J21_4 => k_asm); (case kK_J21_4 => first | exact rfl | assumption); (case kd_J21_4 => ktr_room); (case ku_J21_4 => ktr_units); intro h9_w tk9_w K9_w F9_w N9_w; (try k_fold); (try k_sweep)))
  trivial
local macro_rules | `(tactic| walk_at $s) => fwd "J21 " s
theorem off_C2 : True := by
  w_top off
  trivial
theorem is_operand_R (w mean mg mb) (p : Addr) (y : Str) (i : Int) (t1 t2 u : Tok) : Spec w mean mg mb 271 [.ref p, .str (Str.ofString "R") u, .bool true] [] 9 100 (fun h => IsTup h p #[.str y t1, .int i t2]) (IsV (.bool (([Str.ofString "x", Str.ofString "y"].any fun x => x == y) && decide (1 ≤ i)))) NoExc := by
  refine Spec.of ?_
  intro dp un gd cn cs a ccd cl outer A₀ base h₀ L m hh gn dr tk os Q E B F X N T hk hd hu hpre hret hthr
  have hB : Bind [(Str.ofString "value", Value.ref p), (Str.ofString "kind", Value.str (Str.ofString "R") u), (Str.ofString "linked", Value.bool true)] := .is
  walk_at "mine enter"
  have ht := Keeps.tup0 (by assumption) hpre
  k_steps
  all_goals exact ret_pure hret (by assumption) (by assumption) rfl
theorem is_operand_X (w mean mg mb) (p : Addr) (y : Str) (i : Int) (t1 t2 u : Tok) : Spec w mean mg mb 271 [.ref p, .str (Str.ofString "X") u, .bool true] [] 9 100 (fun h => IsTup h p #[.str y t1, .int i t2]) (IsV (.bool (([Str.ofString "x"].any fun x => x == y) && decide (1 ≤ i)))) NoExc := by
  refine Spec.of ?_
  intro dp un gd cn cs a ccd cl outer A₀ base h₀ L m hh gn dr tk os Q E B F X N T hk hd hu hpre hret hthr
  have hB : Bind [(Str.ofString "value", Value.ref p), (Str.ofString "kind", Value.str (Str.ofString "X") u), (Str.ofString "linked", Value.bool true)] := .is
  walk_at "mine enter"
  have ht := Keeps.tup0 (by assumption) hpre
  k_steps
  all_goals exact ret_pure hret (by assumption) (by assumption) rfl
theorem is_operand_Y (w mean mg mb) (p : Addr) (y : Str) (i : Int) (t1 t2 u : Tok) : Spec w mean mg mb 271 [.ref p, .str (Str.ofString "Y") u, .bool true] [] 9 100 (fun h => IsTup h p #[.str y t1, .int i t2]) (IsV (.bool (([Str.ofString "y"].any fun x => x == y) && decide (1 ≤ i)))) NoExc := by
  refine Spec.of ?_
  intro dp un gd cn cs a ccd cl outer A₀ base h₀ L m hh gn dr tk os Q E B F X N T hk hd hu hpre hret hthr
  have hB : Bind [(Str.ofString "value", Value.ref p), (Str.ofString "kind", Value.str (Str.ofString "Y") u), (Str.ofString "linked", Value.bool true)] := .is
  walk_at "mine enter"
  have ht := Keeps.tup0 (by assumption) hpre
  k_steps
  all_goals exact ret_pure hret (by assumption) (by assumption) rfl
theorem is_operand_C (w mean mg mb) (p : Addr) (k i : Int) (t1 t2 u : Tok) (hki : k = 5 ∨ (k = 4 ∧ 0 ≤ i)) : Spec w mean mg mb 271 [.ref p, .str (Str.ofString "C") u, .bool true] [] 9 100 (fun h => IsTup h p #[.int k t1, .int i t2]) (IsV (.bool true)) NoExc := by
  refine Spec.of ?_
  intro dp un gd cn cs a ccd cl outer A₀ base h₀ L m hh gn dr tk os Q E B F X N T hk hd hu hpre hret hthr
  have hB : Bind [(Str.ofString "value", Value.ref p), (Str.ofString "kind", Value.str (Str.ofString "C") u), (Str.ofString "linked", Value.bool true)] := .is
  walk_at "mine enter"
  have ht := Keeps.tup0 (by assumption) hpre
  k_steps
  all_goals exact ret_pure hret (by assumption) (by assumption) rfl
theorem is_operand_F (w mean mg mb) (i : Int) (t u : Tok) : Spec w mean mg mb 271 [.int i t, .str (Str.ofString "F") u, .bool true] [] 9 100 NoPre (IsV (.bool (decide (0 ≤ i)))) NoExc := by
  refine Spec.of ?_
  intro dp un gd cn cs a ccd cl outer A₀ base h₀ L m hh gn dr tk os Q E B F X N T hk hd hu hpre hret hthr
  have hB : Bind [(Str.ofString "value", Value.int i t), (Str.ofString "kind", Value.str (Str.ofString "F") u), (Str.ofString "linked", Value.bool true)] := .is
  walk_at "mine enter"
  k_steps
  all_goals exact ret_pure hret (by assumption) (by assumption) rfl
theorem is_operand_N (w mean mg mb) (i : Int) (t u : Tok) : Spec w mean mg mb 271 [.int i t, .str (Str.ofString "N") u, .bool true] [] 9 100 NoPre (IsV (.bool (decide (0 ≤ i)))) NoExc := by
  refine Spec.of ?_
  intro dp un gd cn cs a ccd cl outer A₀ base h₀ L m hh gn dr tk os Q E B F X N T hk hd hu hpre hret hthr
  have hB : Bind [(Str.ofString "value", Value.int i t), (Str.ofString "kind", Value.str (Str.ofString "N") u), (Str.ofString "linked", Value.bool true)] := .is
  walk_at "mine enter"
  k_steps
  all_goals exact ret_pure hret (by assumption) (by assumption) rfl
theorem is_operand_L (w mean mg mb) (i : Int) (t u : Tok) : Spec w mean mg mb 271 [.int i t, .str (Str.ofString "L") u, .bool true] [] 9 100 NoPre (IsV (.bool (decide (0 ≤ i)))) NoExc := by
  refine Spec.of ?_
  intro dp un gd cn cs a ccd cl outer A₀ base h₀ L m hh gn dr tk os Q E B F X N T hk hd hu hpre hret hthr
  have hB : Bind [(Str.ofString "value", Value.int i t), (Str.ofString "kind", Value.str (Str.ofString "L") u), (Str.ofString "linked", Value.bool true)] := .is
  walk_at "mine enter"
  k_steps
  all_goals exact ret_pure hret (by assumption) (by assumption) rfl
section
variable {w : World} {mean : ExcName → Option Value} {mg mb : Str → Option Value} {f : Addr} {vs : List Value} {dn un' : Nat}
  {dp un : Nat} {gd : Option (List Code)} {cn : Str} {cs : Scope} {ca : Addr} {ccd : Value} {cl : List (Str × Addr)} {outer : List Env} {A₀ : Around} {base h₀ : Heap} {L : Addr} {m : Str → Option Value} {Q E : Value → Shared → Prop}
theorem Spec.useT {x : Str} {h : Heap} {gn : Array GenState} {dr : Drawn} {tk : Nat} {os : OsState} {pre : Heap → Prop} {news : List (Addr × Obj)} (S : Spec w mean mg mb f vs [] dn un' pre (StrOr (some x)) NoExc) (B : Below A₀ base outer h₀) (F : Fr h₀ L h m) (X : (Mine.hd.heap_1 w.params).In h₀) (N : News h₀ L h news) (T : Top PV LO mean mg mb h₀) (hk : cs.kind = .function)
    (hd : dp + dn < recursionLimit) (hu : un + un' < cLine) (hp : pre h)
    (ret : ∀ t h' tk', Keeps h h' [] → Fr h₀ L h' m → News h₀ L h' news → Q (.str x t) ⟨h', gn, dr, tk', os⟩) :
    wpAny (model PG w) (ktrTop dp un gd cn cs L ca ccd cl outer) (call (.ref f) vs) Q E ⟨h, gn, dr, tk, os⟩ :=
  S.use0 B F X N T hk hd hu hp fun v h' tk' k F' N' x => by
    obtain ⟨y, t, e, ev⟩ := x
    cases e; subst ev; exact ret t h' tk' k F' N'
end
noncomputable def conT : Int ⊕ Str → Str
  | .inl i => numT i
  | .inr y => y
noncomputable def ConOk : Int ⊕ Str → Prop
  | .inl i => -1000000 < i ∧ i < 1000000 ∧ (Str.ofString (toString (if i < 0 then -i else i))).length ≤ 20
  | .inr y => alnumS y = true
theorem SyP.len {w : World} {a : SymA} {st : SymSt} {c : Nat} {sy : List (Addr × Obj)} (P : SyP w a st c sy) : st.texts.length ≤ c ∧ st.funs.length ≤ c := by obtain ⟨_, _, _, _, _, _, O⟩ := P; exact ⟨O.lenT, O.lenF⟩
end
end
section
local macro_rules | `(tactic| k_all) => fwd1 "J11 k_all"
local macro_rules | `(tactic| walk_at $s) => fwd "J11 " s
section
local macro_rules | `(tactic| walk_at $s) => fwd "J17 " s
section
theorem words_J22 : True := by
  k_with "J22 call ref" => ((with_reducible show wpAny _ _ (call (Value.ref 138) _) _ _ _); k_here; k_dflt ((refine' Spec.useSy ?kP_J22_0 (count_spec _ _ _ _ ⟨_, _, _, _, _, _, _, _, _, _⟩ _ _ _ ) ?k1_J22_0 ?k2_J22_0 ?k3_J22_0 ?k4_J22_0 ?k5_J22_0 ?kK_J22_0 ?kd_J22_0 ?ku_J22_0 ?kc_J22_0 ?ko_J22_0 ?_; (case kP_J22_0 => assumption); (case k4_J22_0 => walk_at "mine newsR")); (case k1_J22_0 => k_asm); (case k2_J22_0 => k_asm); (case k3_J22_0 => k_asm); (case k5_J22_0 => k_asm); (case kK_J22_0 => first | exact rfl | assumption); (case kd_J22_0 => ktr_room); (case ku_J22_0 => ktr_units); (case kc_J22_0 => first | assumption | walk_at "mine om"); (case ko_J22_0 => walk_at "mine off"); intro v9_w h9_w tk9_w st9_w sy9_w q9_w P9_w F9_w N9_w O9_w; (obtain ⟨⟨t9_w, e9_w⟩, e8_w⟩ := q9_w); (subst e9_w); (replace e8_w := Eq.symm e8_w); (subst e8_w); (try dsimp only [List.map_cons, List.map_nil] at O9_w); (try dsimp only [List.cons_append, List.nil_append, symR, symI, symJ] at N9_w); (try k_fold); (try k_sweep)))
  k_with "J22 call ref" => ((with_reducible show wpAny _ _ (call (Value.ref 96) _) _ _ _); k_here; k_dflt ((refine' Spec.useSy ?kP_J22_1 (text_spec _ _ _ _ ⟨_, _, _, _, _, _, _, _, _, _⟩ _ _ _ _ _ _ ?kx_J22_1) ?k1_J22_1 ?k2_J22_1 ?k3_J22_1 ?k4_J22_1 ?k5_J22_1 ?kK_J22_1 ?kd_J22_1 ?ku_J22_1 ?kc_J22_1 ?ko_J22_1 ?_; (case kP_J22_1 => assumption); (case k4_J22_1 => walk_at "mine newsR")); (case kx_J22_1 => assumption); (case k1_J22_1 => k_asm); (case k2_J22_1 => k_asm); (case k3_J22_1 => k_asm); (case k5_J22_1 => k_asm); (case kK_J22_1 => first | exact rfl | assumption); (case kd_J22_1 => ktr_room); (case ku_J22_1 => ktr_units); (case kc_J22_1 => first | assumption | walk_at "mine om"); (case ko_J22_1 => walk_at "mine off"); intro v9_w h9_w tk9_w st9_w sy9_w q9_w P9_w F9_w N9_w O9_w; (obtain ⟨⟨t9_w, e9_w⟩, e8_w⟩ := q9_w); (subst e9_w); (replace e8_w := Eq.symm e8_w); (subst e8_w); (try dsimp only [List.map_cons, List.map_nil] at O9_w); (try dsimp only [List.cons_append, List.nil_append, symR, symI, symJ] at N9_w); (try k_fold); (try k_sweep)))
  k_with "J22 call ref" => ((with_reducible show wpAny _ _ (call (Value.ref 194) _) _ _ _); k_here; k_dflt (refine' Spec.useT (number_text_spec _ _ _ _ _ _ ?kx0_J22_2 ?kx1_J22_2 ?kx2_J22_2) ?k1_J22_2 ?k2_J22_2 ?k3_J22_2 ?k4_J22_2 ?k5_J22_2 ?kK_J22_2 ?kd_J22_2 ?ku_J22_2 ?kp_J22_2 ?_; (case kp_J22_2 => walk_at "mine held"); (case kx0_J22_2 => first | assumption | walk_at "mine om"); (case kx1_J22_2 => first | assumption | walk_at "mine om"); (case kx2_J22_2 => first | assumption | walk_at "mine om"); (case k1_J22_2 => k_asm); (case k2_J22_2 => k_asm); (case k3_J22_2 => k_asm); (case k4_J22_2 => k_asm); (case k5_J22_2 => k_asm); (case kK_J22_2 => first | exact rfl | assumption); (case kd_J22_2 => ktr_room); (case ku_J22_2 => ktr_units); intro t9_w h9_w tk9_w K9_w F9_w N9_w; (try k_fold); (try k_sweep)))
  k_with "J22 call ref" => ((with_reducible show wpAny _ _ (call (Value.ref 292) _) _ _ _); k_here; k_dflt (refine' Spec.useT (quoted_spec _ _ _ _ _ _ ?kx0_J22_3) ?k1_J22_3 ?k2_J22_3 ?k3_J22_3 ?k4_J22_3 ?k5_J22_3 ?kK_J22_3 ?kd_J22_3 ?ku_J22_3 ?kp_J22_3 ?_; (case kp_J22_3 => walk_at "mine held"); (case kx0_J22_3 => first | assumption | walk_at "mine om"); (case k1_J22_3 => k_asm); (case k2_J22_3 => k_asm); (case k3_J22_3 => k_asm); (case k4_J22_3 => k_asm); (case k5_J22_3 => k_asm); (case kK_J22_3 => first | exact rfl | assumption); (case kd_J22_3 => ktr_room); (case ku_J22_3 => ktr_units); intro t9_w h9_w tk9_w K9_w F9_w N9_w; (try k_fold); (try k_sweep)))
  trivial
local macro_rules | `(tactic| walk_at $s) => fwd "J22 " s
theorem off_TT1 : True := by
  w_top off
  trivial
theorem constant_text_spec (w mean mg mb) (a : SymA) (st : SymSt) (c : Nat) (sy : List (Addr × Obj)) (p : Addr) (k i : Int) (t1 t2 : Tok) (d : Int ⊕ Str) (hdk : ConIs st d k i) (hok : ConOk d) (hp : p ∉ (symR w a sy).map (·.1)) :
    Spec w mean mg mb 313 [.ref a.s, .ref p] (symR w a sy) 8 120 (fun h => SyP w a st c sy ∧ c < 10000 ∧ IsTup h p #[.int k t1, .int i t2]) (SyPost w a c sy (StrV st (conT d))) NoExc := by
  obtain ⟨as, ad, a1, a2, a3, a4, k1, k2, k3, k4⟩ := a
  refine Spec.of ?_
  intro dp un gd cn cs a ccd cl outer A₀ base h₀ L m hh gn dr tk os Q E B F X N T hk hd hu hpre hret hthr
  have hB : Bind [(Str.ofString "symbols", Value.ref as), (Str.ofString "cell", Value.ref p)] := .is
  obtain ⟨P, hc, ht0⟩ := hpre
  dsimp only [symR, symI, symJ] at *
  have hlen := P.len
  walk_at "mine enter"
  have ht := Keeps.tup (h := hh) (by assumption) ht0 hp
  cases hdk with
  | num i =>
    obtain ⟨o1, o2, o3⟩ := hok
    k_steps
    refine hret _ _ _ (keeps_of (h := hh) (by assumption) (by assumption)) ?_
    exact SyPost.of (by assumption) (by assumption) (by assumption) ⟨⟨_, rfl⟩, rfl⟩
  | @atom n y hy =>
    have o1 : alnumS y = true := hok
    have hn : n < st.texts.length := (List.getElem?_eq_some_iff.mp hy).1
    k_steps
    refine hret _ _ _ (keeps_of (h := hh) (by assumption) (by assumption)) ?_
    exact SyPost.of (by assumption) (by assumption) (by assumption) ⟨⟨_, rfl⟩, rfl⟩
end
section
theorem words_J23 : True := by
  k_with "J23 call ref" => ((with_reducible show wpAny _ _ (call (Value.ref 145) _) _ _ _); k_here; k_dflt ((refine' Spec.useSy ?kP_J23_0 (functor_count_spec _ _ _ _ ⟨_, _, _, _, _, _, _, _, _, _⟩ _ _ _ ) ?k1_J23_0 ?k2_J23_0 ?k3_J23_0 ?k4_J23_0 ?k5_J23_0 ?kK_J23_0 ?kd_J23_0 ?ku_J23_0 ?kc_J23_0 ?ko_J23_0 ?_; (case kP_J23_0 => assumption); (case k4_J23_0 => walk_at "mine newsR")); (case k1_J23_0 => k_asm); (case k2_J23_0 => k_asm); (case k3_J23_0 => k_asm); (case k5_J23_0 => k_asm); (case kK_J23_0 => first | exact rfl | assumption); (case kd_J23_0 => ktr_room); (case ku_J23_0 => ktr_units); (case kc_J23_0 => first | assumption | walk_at "mine om"); (case ko_J23_0 => walk_at "mine off"); intro v9_w h9_w tk9_w st9_w sy9_w q9_w P9_w F9_w N9_w O9_w; (obtain ⟨⟨t9_w, e9_w⟩, e8_w⟩ := q9_w); (subst e9_w); (replace e8_w := Eq.symm e8_w); (subst e8_w); (try dsimp only [List.map_cons, List.map_nil] at O9_w); (try dsimp only [List.cons_append, List.nil_append, symR, symI, symJ] at N9_w); (try k_fold); (try k_sweep)))
  k_with "J23 call ref" => ((with_reducible show wpAny _ _ (call (Value.ref 96) _) _ _ _); k_here; k_dflt ((refine' Spec.useSy ?kP_J23_1 (text_spec _ _ _ _ ⟨_, _, _, _, _, _, _, _, _, _⟩ _ _ _ _ _ _ ?kx_J23_1) ?k1_J23_1 ?k2_J23_1 ?k3_J23_1 ?k4_J23_1 ?k5_J23_1 ?kK_J23_1 ?kd_J23_1 ?ku_J23_1 ?kc_J23_1 ?ko_J23_1 ?_; (case kP_J23_1 => assumption); (case k4_J23_1 => walk_at "mine newsR")); (case kx_J23_1 => assumption); (case k1_J23_1 => k_asm); (case k2_J23_1 => k_asm); (case k3_J23_1 => k_asm); (case k5_J23_1 => k_asm); (case kK_J23_1 => first | exact rfl | assumption); (case kd_J23_1 => ktr_room); (case ku_J23_1 => ktr_units); (case kc_J23_1 => first | assumption | walk_at "mine om"); (case ko_J23_1 => walk_at "mine off"); intro v9_w h9_w tk9_w st9_w sy9_w q9_w P9_w F9_w N9_w O9_w; (obtain ⟨⟨t9_w, e9_w⟩, e8_w⟩ := q9_w); (subst e9_w); (replace e8_w := Eq.symm e8_w); (subst e8_w); (try dsimp only [List.map_cons, List.map_nil] at O9_w); (try dsimp only [List.cons_append, List.nil_append, symR, symI, symJ] at N9_w); (try k_fold); (try k_sweep)))
  k_with "J23 call ref" => ((with_reducible show wpAny _ _ (call (Value.ref 117) _) _ _ _); k_here; k_dflt ((refine' Spec.useSy ?kP_J23_2 (name_spec _ _ _ _ ⟨_, _, _, _, _, _, _, _, _, _⟩ _ _ _ _ _ _ ?kx_J23_2) ?k1_J23_2 ?k2_J23_2 ?k3_J23_2 ?k4_J23_2 ?k5_J23_2 ?kK_J23_2 ?kd_J23_2 ?ku_J23_2 ?kc_J23_2 ?ko_J23_2 ?_; (case kP_J23_2 => assumption); (case k4_J23_2 => walk_at "mine newsR")); (case kx_J23_2 => assumption); (case k1_J23_2 => k_asm); (case k2_J23_2 => k_asm); (case k3_J23_2 => k_asm); (case k5_J23_2 => k_asm); (case kK_J23_2 => first | exact rfl | assumption); (case kd_J23_2 => ktr_room); (case ku_J23_2 => ktr_units); (case kc_J23_2 => first | assumption | walk_at "mine om"); (case ko_J23_2 => walk_at "mine off"); intro v9_w h9_w tk9_w st9_w sy9_w q9_w P9_w F9_w N9_w O9_w; (obtain ⟨⟨t9_w, e9_w⟩, e8_w⟩ := q9_w); (subst e9_w); (replace e8_w := Eq.symm e8_w); (subst e8_w); (try dsimp only [List.map_cons, List.map_nil] at O9_w); (try dsimp only [List.cons_append, List.nil_append, symR, symI, symJ] at N9_w); (try k_fold); (try k_sweep)))
  k_with "J23 call ref" => ((with_reducible show wpAny _ _ (call (Value.ref 124) _) _ _ _); k_here; k_dflt ((refine' Spec.useSy ?kP_J23_3 (arity_spec _ _ _ _ ⟨_, _, _, _, _, _, _, _, _, _⟩ _ _ _ _ _ _ ?kx_J23_3) ?k1_J23_3 ?k2_J23_3 ?k3_J23_3 ?k4_J23_3 ?k5_J23_3 ?kK_J23_3 ?kd_J23_3 ?ku_J23_3 ?kc_J23_3 ?ko_J23_3 ?_; (case kP_J23_3 => assumption); (case k4_J23_3 => walk_at "mine newsR")); (case kx_J23_3 => assumption); (case k1_J23_3 => k_asm); (case k2_J23_3 => k_asm); (case k3_J23_3 => k_asm); (case k5_J23_3 => k_asm); (case kK_J23_3 => first | exact rfl | assumption); (case kd_J23_3 => ktr_room); (case ku_J23_3 => ktr_units); (case kc_J23_3 => first | assumption | walk_at "mine om"); (case ko_J23_3 => walk_at "mine off"); intro v9_w h9_w tk9_w st9_w sy9_w q9_w P9_w F9_w N9_w O9_w; (obtain ⟨⟨t9_w, e9_w⟩, e8_w⟩ := q9_w); (subst e9_w); (replace e8_w := Eq.symm e8_w); (subst e8_w); (try dsimp only [List.map_cons, List.map_nil] at O9_w); (try dsimp only [List.cons_append, List.nil_append, symR, symI, symJ] at N9_w); (try k_fold); (try k_sweep)))
  k_with "J23 call ref" => ((with_reducible show wpAny _ _ (call (Value.ref 194) _) _ _ _); k_here; k_dflt (refine' Spec.useT (number_text_spec _ _ _ _ _ _ ?kx0_J23_4 ?kx1_J23_4 ?kx2_J23_4) ?k1_J23_4 ?k2_J23_4 ?k3_J23_4 ?k4_J23_4 ?k5_J23_4 ?kK_J23_4 ?kd_J23_4 ?ku_J23_4 ?kp_J23_4 ?_; (case kp_J23_4 => walk_at "mine held"); (case kx0_J23_4 => first | assumption | walk_at "mine om"); (case kx1_J23_4 => first | assumption | walk_at "mine om"); (case kx2_J23_4 => first | assumption | walk_at "mine om"); (case k1_J23_4 => k_asm); (case k2_J23_4 => k_asm); (case k3_J23_4 => k_asm); (case k4_J23_4 => k_asm); (case k5_J23_4 => k_asm); (case kK_J23_4 => first | exact rfl | assumption); (case kd_J23_4 => ktr_room); (case ku_J23_4 => ktr_units); intro t9_w h9_w tk9_w K9_w F9_w N9_w; (try k_fold); (try k_sweep)))
  k_with "J23 call ref" => ((with_reducible show wpAny _ _ (call (Value.ref 292) _) _ _ _); k_here; k_dflt (refine' Spec.useT (quoted_spec _ _ _ _ _ _ ?kx0_J23_5) ?k1_J23_5 ?k2_J23_5 ?k3_J23_5 ?k4_J23_5 ?k5_J23_5 ?kK_J23_5 ?kd_J23_5 ?ku_J23_5 ?kp_J23_5 ?_; (case kp_J23_5 => walk_at "mine held"); (case kx0_J23_5 => first | assumption | walk_at "mine om"); (case k1_J23_5 => k_asm); (case k2_J23_5 => k_asm); (case k3_J23_5 => k_asm); (case k4_J23_5 => k_asm); (case k5_J23_5 => k_asm); (case kK_J23_5 => first | exact rfl | assumption); (case kd_J23_5 => ktr_room); (case ku_J23_5 => ktr_units); intro t9_w h9_w tk9_w K9_w F9_w N9_w; (try k_fold); (try k_sweep)))
  trivial
local macro_rules | `(tactic| walk_at $s) => fwd "J23 " s
theorem off_TT2 : True := by
  w_top off
  trivial
noncomputable def funT (y : Str) (j : Int) : Str := y ++ Str.ofString "/" ++ numT j
local macro_rules | `(tactic| walk_at $s) => Lean.Macro.throwUnsupported
theorem functor_text_spec (w mean mg mb) (a : SymA) (st : SymSt) (c : Nat) (sy : List (Addr × Obj)) (i n : Nat) (t : Tok) (y : Str) (j : Int) (hf : st.funs[i]? = some ((n : Int), j)) (hy : st.texts[n]? = some y) (o1 : alnumS y = true) (o2 : y.length ≤ 18) (o3 : -1000000 < j) (o4 : j < 1000000) (o5 : (Str.ofString (toString (if j < 0 then -j else j))).length ≤ 20) (o6 : (numT j).length ≤ 30) :
    Spec w mean mg mb 320 [.ref a.s, .int (i : Int) t] (symR w a sy) 8 120 (fun h => SyP w a st c sy ∧ c < 10000) (SyPost w a c sy (StrV st (funT y j))) NoExc := by
  obtain ⟨as, ad, a1, a2, a3, a4, k1, k2, k3, k4⟩ := a
  refine Spec.of ?_
  intro dp un gd cn cs a ccd cl outer A₀ base h₀ L m hh gn dr tk os Q E B F X N T hk hd hu hpre hret hthr
  have hB : Bind [(Str.ofString "symbols", Value.ref as), (Str.ofString "functor", Value.int (i : Int) t)] := .is
  obtain ⟨P, hc⟩ := hpre
  dsimp only [symR, symI, symJ] at *
  have hlen := P.len
  walk_at "mine enter"
  have hi : i < st.funs.length := (List.getElem?_eq_some_iff.mp hf).1
  have hn : n < st.texts.length := (List.getElem?_eq_some_iff.mp hy).1
  k_steps
  refine hret _ _ _ (keeps_of (h := hh) (by assumption) (by assumption)) ?_
  exact SyPost.of (by assumption) (by assumption) (by assumption) ⟨⟨_, rfl⟩, rfl⟩
theorem off_While : True := by
  w_top off
  trivial
section
variable {prog : Program} {w : World} {A : Around} {E : Value → Shared → Prop} {env : Env} {test : PySem.Expr} {body orelse : List Stmt} {Q : Flow → Shared → Prop}
theorem loop_while {σ : Type} (meas : σ → Nat) (P : σ → Shared → Prop)
    (turn : ∀ c s, (∀ c' s', meas c' < meas c → P c' s' → WhlRest prog w A E env test body orelse Q 0 s') → P c s → WhlRest prog w A E env test body orelse Q 1 s) :
    ∀ c s, P c s → WhlRest prog w A E env test body orelse Q 1 s := by
  intro c
  generalize e : meas c = n
  induction n using Nat.strongRecOn generalizing c with
  | _ n ih =>
    intro s h
    exact turn c s (fun c' s' hm h' => ih (meas c') (by walk_at "mine om") c' rfl s' h') h
theorem WhlIf.split {b : Bool} {T F : Prop} (t : b = true → T) (f : b = false → F) : WhlIf b T F := by
  cases b with
  | true => exact WhlIf.yes rfl (t rfl)
  | false => exact WhlIf.no rfl (f rfl)
end
section
variable {prog : Program} {w : World} {A : Around} {E : Value → Shared → Prop} {env : Env} {test : PySem.Expr} {body orelse : List Stmt} {Q : Flow → Shared → Prop} {h₀ : Heap} {L : Addr} {gn : Array GenState} {dr : Drawn} {os : OsState}
theorem loop_wh {σ : Type} {m₀ : Str → Option Value} {s₀ : Heap} {tk₀ : Nat} (meas : σ → Nat) (Led : σ → List (Addr × Obj)) (ps : σ → List (Str × Value)) (stored : List Str) (Inv : σ → Prop) (c₀ : σ)
    (F : Fr h₀ L s₀ m₀) (N : News h₀ L s₀ (Led c₀)) (hk : ∀ p ∈ ps c₀, m₀ p.1 = some p.2) (hI : Inv c₀)
    (turn : ∀ c (u : Str → Option Value) h tk, Inv c →
      (∀ c' h' tk' m', meas c' < meas c → Fr h₀ L h' m' → News h₀ L h' (Led c') → Inv c' → (∀ p ∈ ps c', m' p.1 = some p.2) → (∀ z, (∀ p ∈ ps c', z ≠ p.1) → stored.contains z = false → m' z = m₀ z) → WhlRest prog w A E env test body orelse Q 0 ⟨h', gn, dr, tk', os⟩) →
      Fr h₀ L h (kstB (fun z => if stored.contains z then u z else m₀ z) (ps c)) → News h₀ L h (Led c) → WhlRest prog w A E env test body orelse Q 1 ⟨h, gn, dr, tk, os⟩) :
    WhlRest prog w A E env test body orelse Q 1 ⟨s₀, gn, dr, tk₀, os⟩ := by
  refine loop_while meas (fun c s => ∃ h tk m, s = ⟨h, gn, dr, tk, os⟩ ∧ Fr h₀ L h m ∧ News h₀ L h (Led c) ∧ Inv c ∧ (∀ p ∈ ps c, m p.1 = some p.2) ∧ (∀ z, (∀ p ∈ ps c, z ≠ p.1) → stored.contains z = false → m z = m₀ z)) ?_ c₀ _ ⟨s₀, tk₀, m₀, rfl, F, N, hI, hk, fun _ _ _ => rfl⟩
  rintro c s ih q0
  refine let_goal ?_
  intro gl_P
  obtain ⟨h, tk, m, eq0, F', N', hI', h1, h2⟩ := q0
  dsimp only [gl_P]
  clear gl_P
  subst eq0
  have em : kstB (fun z => if stored.contains z then m z else m₀ z) (ps c) = m := by
    funext z
    refine kstB_eq h1 fun hz => ?_
    cases q : stored.contains z with
    | true => simp
    | false => simp only [Bool.false_eq_true, if_false]; exact (h2 z hz q).symm
  refine turn c m h tk hI' (fun c' h' tk' m' hm F'' N'' hI'' g1 g2 => ih c' _ hm ⟨h', tk', m', rfl, F'', N'', hI'', g1, g2⟩) ?_ N'
  rw [em]; exact F'
end
theorem off_RT0 : True := by
  w_top off
  trivial
section
variable {w : World} {h h' g Bh : Heap} {a : SymA} {st st' : SymSt} {c c' : Nat} {L' : Addr} {sy sy' news : List (Addr × Obj)} {C : Prop}
theorem SyExc.newN (HG : Keeps h g ((symR w a sy).map (·.1))) (N : News g L' h' news) (hn : ∀ p ∈ symR w a sy', p ∈ news) (hB : ∀ p ∈ news, Bh.get? p.1 = some p.2) (hC : C) (hl : st.le st') (P : SyP w a st' c' sy') (hc : c' ≤ c) : SyExc w a st c sy C h Bh :=
  ⟨hC, st', sy', hl, P.more hc, led_thrown HG N hn hB⟩
theorem SyExc.upN {A : Around} {base : Heap} {outer : List Env} {name : Str} {scope : Scope} {fa : Addr} {cd : Value} (HG : Keeps h g ((symR w a sy).map (·.1))) (N : News g L' h' news) (B' : Below A base outer g) (hn : ∀ p ∈ symR w a sy', p ∈ news)
    (hk : ∀ b o, h'.get? b = some o → b ∉ ([] : List Addr) → b ∉ (envOf name scope L' fa cd :: outer).filterMap (·.frame) → Bh.get? b = some o) (hC : C) (hl : st.le st') (P : SyP w a st' c' sy') (hc : c' ≤ c) : SyExc w a st c sy C h Bh :=
  SyExc.newN HG N hn (fun p hp => hk _ _ (N p hp).1 (by first | walk_at "mine mem1" | simp) (led_frames B' N p hp)) hC hl P hc
end
noncomputable abbrev colS (x : Str) : Int := Txt.rfind x (Str.ofString ":")
noncomputable abbrev keyW (x : Str) : Str := Txt.slice x none (some (Txt.rfind x (Str.ofString ":")))
noncomputable abbrev valW (x : Str) : Str := Txt.slice x (some (Txt.rfind x (Str.ofString ":") + 1)) none
noncomputable def stepG {α : Type} [DecidableEq α] (key : Str → Option α) (l : List (α × Int)) (x : Str) : Option (List (α × Int)) :=
  if colS x < 1 then none
  else match key (keyW x) with
    | none => none
    | some d => if hasK l d then none else match cntS (valW x) with
      | none => none
      | some v => some (l ++ [(d, v)])
noncomputable def goG {α : Type} [DecidableEq α] (key : Str → Option α) : List (α × Int) → List Str → Option (List (α × Int) × Nat)
  | _, [] => none
  | l, x :: r => if x == Str.ofString "}" then some (l, 0) else match stepG key l x with
    | none => none
    | some l' => (goG key l' r).map fun p => (p.1, p.2 + 1)
structure EntryOk (x : Str) : Prop where
  long : x.length ≤ 18
  key : ¬colS x < 1 → WordOk (keyW x)
structure RtS (α : Type) where
  j : Nat
  tj : Tok
  l : List (α × Int)
  ks : List (Addr × Obj)
  o : Obj
  st : SymSt
  sy : List (Addr × Obj)
noncomputable def tabS {α : Type} [DecidableEq α] (key : Str → Option α) (ws : List Str) (i : Nat) : Option (List (α × Int) × Nat) :=
  if (ws.getD i Str.empty != Str.ofString "{") = true then none else (goG key [] (ws.drop (i + 1))).map fun p => (p.1, p.2 + (i + 1) + 1)
noncomputable abbrev pairObj (D : Addr) (e : Int) (t : Tok) : Obj := { cls := .type "tuple", data := .seq #[.ref D, .int e t] }
noncomputable abbrev RtV (w : World) (st : SymSt) (r : Option (List ((Int ⊕ Str) × Int) × Nat)) (v : Value) (own : List (Addr × Obj)) (st' : SymSt) : Prop :=
  ∃ tp D o l ks, ∃ (e : Nat) (t' : Tok), r = some (l, e) ∧ v = .ref tp ∧ own = (tp, pairObj D (e : Int) t') :: (D, o) :: ks ∧ (D == sysModules) = false ∧ TabT w st' o l ks ∧ st.le st'
noncomputable abbrev RtU (w : World) (st : SymSt) (r : Option (List ((Str × Int) × Int) × Nat)) (v : Value) (own : List (Addr × Obj)) (st' : SymSt) : Prop :=
  ∃ tp D o l, ∃ (e : Nat) (t' : Tok), r = some (l, e) ∧ v = .ref tp ∧ own = [(tp, pairObj D (e : Int) t'), (D, o)] ∧ (D == sysModules) = false ∧ TabU w st' o l ∧ st.le st'
theorem tabT_nil {w : World} {st : SymSt} {o : Obj} {K' : Type} [DecidableEq K'] {knd' : KeyKind PG w K'} (hd : o.IsDictOf knd' []) : TabT w st o [] [] := by
  refine let_goal ?_
  intro gl_P
  obtain ⟨es, ep, hc, hdat, _, hp, _⟩ := hd
  dsimp only [gl_P]
  clear gl_P
  have he : es.toList = [] := List.length_eq_zero_iff.mp hp.length
  exact ⟨es, ep, [], hc, hdat, he, List.nodup_nil, .nil⟩
section
variable {α : Type} [DecidableEq α] {key : Str → Option α} {ws : List Str} {i j n : Nat} {l : List (α × Int)} {r : Option (List (α × Int) × Nat)}
theorem drop_at (h : j < ws.length) : ws.drop j = ws.getD j Str.empty :: ws.drop (j + 1) := by
  rw [List.drop_eq_getElem_cons h]; simp [List.getD_eq_getElem?_getD, List.getElem?_eq_getElem h]
theorem go_end (h : j < ws.length) (hb : (ws.getD ((j : Int)).toNat Str.empty != Str.ofString "}") = false) (e : (goG key l (ws.drop j)).map (fun p => (p.1, p.2 + j + 1)) = r) : r = some (l, j + 1) := by
  rw [drop_at h] at e
  have hb' : (ws.getD j Str.empty == Str.ofString "}") = true := by
    have : (ws.getD j Str.empty != Str.ofString "}") = false := hb
    simpa [bne] using this
  rw [← e, goG, if_pos hb']; simp
theorem go_over (h : ¬(j : Int) < (ws.length : Int)) (e : (goG key l (ws.drop j)).map (fun p => (p.1, p.2 + j + 1)) = r) : r = none := by
  rw [List.drop_eq_nil_of_le (by walk_at "mine om")] at e
  rw [← e]; rfl
theorem go_step (h : j < ws.length) (hb : (ws.getD ((j : Int)).toNat Str.empty != Str.ofString "}") = true) : goG key l (ws.drop j) = match stepG key l (ws.getD j Str.empty) with
    | none => none
    | some l' => (goG key l' (ws.drop (j + 1))).map fun p => (p.1, p.2 + 1) := by
  have hb' : (ws.getD j Str.empty == Str.ofString "}") = false := by
    have : (ws.getD j Str.empty != Str.ofString "}") = true := hb
    simpa [bne] using this
  rw [drop_at h, goG, hb', if_neg (by decide)]; try (cases stepG key l (ws.getD j Str.empty) <;> rfl)
theorem go_none (h : j < ws.length) (hb : (ws.getD ((j : Int)).toNat Str.empty != Str.ofString "}") = true) (hs : stepG key l (ws.getD j Str.empty) = none) (e : (goG key l (ws.drop j)).map (fun p => (p.1, p.2 + j + 1)) = r) : r = none := by
  rw [go_step h hb, hs] at e; rw [← e]; rfl
theorem go_next {l' : List (α × Int)} (h : j < ws.length) (hb : (ws.getD ((j : Int)).toNat Str.empty != Str.ofString "}") = true) (hs : stepG key l (ws.getD j Str.empty) = some l') (e : (goG key l (ws.drop j)).map (fun p => (p.1, p.2 + j + 1)) = r) :
    (goG key l' (ws.drop (j + 1))).map (fun p => (p.1, p.2 + (j + 1) + 1)) = r := by
  rw [go_step h hb, hs] at e; rw [← e, Option.map_map]
  congr 1; funext p; simp; walk_at "mine om"
end
theorem mem_symks {w : World} {a : SymA} {q : Addr × Obj} {ks sy : List (Addr × Obj)} : ∀ p ∈ symR w a sy, p ∈ q :: symI a :: symJ w a :: (ks ++ sy) := fun p hp => by
  simp only [symR, List.mem_cons] at hp
  rcases hp with h | h | h
  · exact .tail _ (h ▸ .head _)
  · exact .tail _ (.tail _ (h ▸ .head _))
  · exact .tail _ (.tail _ (.tail _ (List.mem_append.mpr (.inr h))))
theorem mem_ownks {w : World} {a : SymA} {x q : Addr × Obj} {ks sy : List (Addr × Obj)} : ∀ p ∈ (x :: q :: ks) ++ symR w a sy, p ∈ x :: q :: symI a :: symJ w a :: (ks ++ sy) := fun p hp => by
  rcases List.mem_append.mp hp with hp | hp
  · rcases List.mem_cons.mp hp with h | hp
    · exact h ▸ .head _
    · rcases List.mem_cons.mp hp with h | hp
      · exact .tail _ (h ▸ .head _)
      · exact .tail _ (.tail _ (.tail _ (.tail _ (List.mem_append.mpr (.inl hp)))))
  · exact .tail _ (mem_symks p hp)
theorem mem_toR {w : World} {a : SymA} {q : Addr × Obj} {ks sy : List (Addr × Obj)} : ∀ p ∈ (q :: ks) ++ symR w a sy, p ∈ q :: symI a :: symJ w a :: (ks ++ sy) := fun p hp => by
  rcases List.mem_append.mp hp with hp | hp
  · rcases List.mem_cons.mp hp with h | hp
    · exact h ▸ .head _
    · exact .tail _ (.tail _ (.tail _ (List.mem_append.mpr (.inl hp))))
  · exact mem_symks p hp
theorem mem_back {w : World} {a : SymA} {q x : Addr × Obj} {ks sy : List (Addr × Obj)} : ∀ p ∈ q :: symI a :: symJ w a :: ((x :: ks) ++ sy), p ∈ (q :: ks) ++ ([x] ++ symR w a sy) := fun p hp => by
  simp only [symR, List.mem_cons, List.mem_append, List.not_mem_nil, or_false] at hp ⊢
  rcases hp with h | h | h | (h | h) | h
  · exact .inl (.inl h)
  · exact .inr (.inr (.inl h))
  · exact .inr (.inr (.inr (.inl h)))
  · exact .inr (.inl h)
  · exact .inl (.inr h)
  · exact .inr (.inr (.inr (.inr h)))
theorem mem_back0 {w : World} {a : SymA} {q : Addr × Obj} {ks sy : List (Addr × Obj)} : ∀ p ∈ q :: symI a :: symJ w a :: (ks ++ sy), p ∈ (q :: ks) ++ ([] ++ symR w a sy) := fun p hp => by
  simp only [symR, List.mem_cons, List.mem_append, List.not_mem_nil, or_false, false_or] at hp ⊢
  rcases hp with h | h | h | h | h
  · exact .inl (.inl h)
  · exact .inr (.inl h)
  · exact .inr (.inr (.inl h))
  · exact .inl (.inr h)
  · exact .inr (.inr (.inr h))
section
variable {c j n l : Nat}
theorem rtu_a (h : (j : Int) < (n : Int)) : c + 2 * j ≤ c + 2 * n := Nat.add_le_add_left (Nat.mul_le_mul_left 2 (Nat.le_of_lt (Int.ofNat_lt.mp h))) c
theorem rtu_b (h : (j : Int) < (n : Int)) : c + 2 * j + 2 ≤ c + 2 * n := Nat.add_assoc c _ 2 ▸ Nat.add_le_add_left (Nat.mul_le_mul_left 2 (Int.ofNat_lt.mp h : j + 1 ≤ n)) c
theorem rtu_c (h : j ≤ n) : c + 2 * j ≤ c + 2 * n := Nat.add_le_add_left (Nat.mul_le_mul_left 2 h) c
theorem rtu_d (hc : c + 2 * n < 10000) (h : (j : Int) < (n : Int)) : c + 2 * j + 1 < 10000 := Nat.lt_of_lt_of_le (Nat.lt_succ_self _) (Nat.le_trans (rtu_b h) (Nat.le_of_lt hc))
theorem rt_f (hc : c + n < 10000) (h : (j : Int) < (n : Int)) : c + j < 10000 := Nat.lt_of_le_of_lt (Nat.add_le_add_left (Nat.le_of_lt (Int.ofNat_lt.mp h)) c) hc
theorem rt_g (h : l ≤ j) : l + (0 + 1) ≤ j + 1 := Nat.add_le_add_right h 1
end
theorem TabT.le {w : World} {st st' : SymSt} (q : st.le st') {o : Obj} {l : List ((Int ⊕ Str) × Int)} {ks : List (Addr × Obj)} (x : TabT w st o l ks) : TabT w st' o l ks := by obtain ⟨es, ep, xs, a, b, c, d, e⟩ := x; exact ⟨es, ep, xs, a, b, c, d, e.le q⟩
theorem SyP.nodT {w : World} {a : SymA} {st : SymSt} {c : Nat} {sy : List (Addr × Obj)} (P : SyP w a st c sy) : st.texts.Nodup := by obtain ⟨_, _, _, _, _, _, O⟩ := P; exact O.nodT
theorem SyP.nodF {w : World} {a : SymA} {st : SymSt} {c : Nat} {sy : List (Addr × Obj)} (P : SyP w a st c sy) : st.funs.Nodup := by obtain ⟨_, _, _, _, _, _, O⟩ := P; exact O.nodF
theorem step_key {α : Type} [DecidableEq α] {key : Str → Option α} {l : List (α × Int)} {x : Str} (h : ¬colS x < 1) (k : key (keyW x) = none) : stepG key l x = none := by unfold stepG; rw [if_neg h, k]
theorem step_dup {α : Type} [DecidableEq α] {key : Str → Option α} {l : List (α × Int)} {x : Str} {d : α} (h : ¬colS x < 1) (k : key (keyW x) = some d) (q : hasK l d = true) : stepG key l x = none := by unfold stepG; rw [if_neg h, k]; simp [q]
theorem step_val {α : Type} [DecidableEq α] {key : Str → Option α} {l : List (α × Int)} {x : Str} {d : α} (h : ¬colS x < 1) (k : key (keyW x) = some d) (q : hasK l d = false) (v : cntS (valW x) = none) : stepG key l x = none := by unfold stepG; rw [if_neg h, k]; simp [q, v]
theorem step_ok {α : Type} [DecidableEq α] {key : Str → Option α} {l : List (α × Int)} {x : Str} {d : α} {n : Int} (h : ¬colS x < 1) (k : key (keyW x) = some d) (q : hasK l d = false) (v : cntS (valW x) = some n) : stepG key l x = some (l ++ [(d, n)]) := by unfold stepG; rw [if_neg h, k]; simp [q, v]
theorem mem_ksk {w : World} {a : SymA} {q x : Addr × Obj} {ks sy : List (Addr × Obj)} {y : Addr × Obj} (h : y ∈ ks) : y ∈ q :: symI a :: symJ w a :: ((x :: ks) ++ sy) := .tail _ (.tail _ (.tail _ (List.mem_append.mpr (.inl (.tail _ h)))))
theorem mem_new {w : World} {a : SymA} {q x : Addr × Obj} {ks sy : List (Addr × Obj)} : x ∈ q :: symI a :: symJ w a :: ((x :: ks) ++ sy) := .tail _ (.tail _ (.tail _ (.head _)))
theorem off_Tabs0 : True := by
  w_top off
  trivial
noncomputable def TabAtT (w : World) (st : SymSt) (D : Addr) (l : List ((Int ⊕ Str) × Int)) (h : Heap) : Prop := ∃ o ks, h.get? D = some o ∧ TabT w st o l ks ∧ ∀ q ∈ ks, h.get? q.1 = some q.2
noncomputable def TabAtU (w : World) (st : SymSt) (D : Addr) (l : List ((Str × Int) × Int)) (h : Heap) : Prop := ∃ o, h.get? D = some o ∧ TabU w st o l
theorem TabAtT.keep {w : World} {st : SymSt} {D : Addr} {l : List ((Int ⊕ Str) × Int)} {h h' : Heap} (x : TabAtT w st D l h) (k : ∀ b o, h.get? b = some o → h'.get? b = some o) : TabAtT w st D l h' := by obtain ⟨o, ks, a, b, c⟩ := x; exact ⟨o, ks, k _ _ a, b, fun q hq => k _ _ (c q hq)⟩
theorem TabAtU.keep {w : World} {st : SymSt} {D : Addr} {l : List ((Str × Int) × Int)} {h h' : Heap} (x : TabAtU w st D l h) (k : ∀ b o, h.get? b = some o → h'.get? b = some o) : TabAtU w st D l h' := by obtain ⟨o, a, b⟩ := x; exact ⟨o, k _ _ a, b⟩
theorem TabAtT.keep0 {w : World} {st : SymSt} {D : Addr} {l : List ((Int ⊕ Str) × Int)} {h h' : Heap} (k : Keeps h h' (([] : List (Addr × Obj)).map (·.1))) (x : TabAtT w st D l h) : TabAtT w st D l h' := x.keep fun b o e => k b o e (fun q => nomatch q)
theorem TabAtU.keep0 {w : World} {st : SymSt} {D : Addr} {l : List ((Str × Int) × Int)} {h h' : Heap} (k : Keeps h h' (([] : List (Addr × Obj)).map (·.1))) (x : TabAtU w st D l h) : TabAtU w st D l h' := x.keep fun b o e => k b o e (fun q => nomatch q)
theorem TabK.get {st : SymSt} {l : List ((Int ⊕ Str) × Int)} {xs : List (List Int × Addr × Value)} {ks : List (Addr × Obj)} (x : TabK st l xs ks) {i : Nat} {y : List Int × Addr × Value} (h : xs[i]? = some y) :
    ∃ d k j p v t t1 t2, l[i]? = some (d, v) ∧ y = ([k, j], p, .int v t) ∧ (p, keyObj k j t1 t2) ∈ ks ∧ ConIs st d k j := by
  induction x with
  | nil => simp at h
  | @snoc l xs ks d k j v p t t1 t2 x' hd ih =>
    have hlen := x'.len
    rcases Nat.lt_or_ge i xs.length with q | q
    · rw [List.getElem?_append_left q] at h
      refine let_goal ?_
      intro gl_P
      obtain ⟨d', k', j', p', v', u, u1, u2, e1, e2, e3, e4⟩ := ih h
      dsimp only [gl_P]
      clear gl_P
      exact ⟨d', k', j', p', v', u, u1, u2, by rw [List.getElem?_append_left (by walk_at "mine om")]; exact e1, e2, .tail _ e3, e4⟩
    · rw [List.getElem?_append_right q] at h
      have hi : i = xs.length := by
        rcases Nat.eq_or_lt_of_le q with q | q
        · exact q.symm
        · rw [List.getElem?_eq_none (by simp; walk_at "mine om")] at h; cases h
      subst hi
      simp only [Nat.sub_self, List.getElem?_cons_zero, Option.some.injEq] at h
      exact ⟨d, k, j, p, v, t, t1, t2, by rw [List.getElem?_append_right (by walk_at "mine om"), hlen]; simp, h.symm, .head _, hd⟩
theorem ConIs.key {st : SymSt} {d : Int ⊕ Str} {k j : Int} (x : ConIs st d k j) : k = 5 ∨ (k = 4 ∧ 0 ≤ j) := by
  cases x with
  | num => exact .inl rfl
  | atom => exact .inr ⟨rfl, Int.natCast_nonneg _⟩
theorem atKey_get {xs : List (List Int × Addr × Value)} (hn : (xs.map (·.1)).Nodup) {i : Nat} {k : List Int} {y : Addr × Value} (h : xs[i]? = some (k, y)) : atKey xs k = some y := by
  unfold atKey
  induction xs generalizing i with
  | nil => simp at h
  | cons x r ih =>
    rw [List.map_cons, List.nodup_cons] at hn
    cases i with
    | zero =>
      simp only [List.getElem?_cons_zero, Option.some.injEq] at h
      subst h; simp
    | succ i =>
      dsimp only [List.getElem?_cons_succ] at h
      have hm : k ∈ r.map (·.1) := List.mem_map.mpr ⟨_, List.mem_of_getElem? h, rfl⟩
      have hne : x.1 ≠ k := fun e => hn.1 (e ▸ hm)
      rw [List.find?_cons, show decide (x.1 = k) = false by simp [hne]]
      exact ih hn.2 h
theorem tabT_item {w : World} {st : SymSt} {l : List ((Int ⊕ Str) × Int)} {xs : List (List Int × Addr × Value)} {ks : List (Addr × Obj)} {es : Array DictEntry} (he : es.toList = xs.map (entryOfKey (tupleKind (intKind PG w)))) (hK : TabK st l xs ks) {i : Nat} {e : DictEntry} (h : es[i]? = some e) :
    ∃ d k j p v t t1 t2, l[i]? = some (d, v) ∧ xs[i]? = some ([k, j], p, .int v t) ∧ e.key = .ref p ∧ (p, keyObj k j t1 t2) ∈ ks ∧ ConIs st d k j := by
  have h' : es.toList[i]? = some e := by simpa using h
  rw [he, List.getElem?_map] at h'
  cases q : xs[i]? with
  | none => rw [q] at h'; cases h'
  | some y =>
    rw [q] at h'
    refine let_goal ?_
    intro gl_P
    obtain ⟨d, k, j, p, v, t, t1, t2, e1, e2, e3, e4⟩ := hK.get q
    dsimp only [gl_P]
    clear gl_P
    subst e2
    simp only [Option.map_some, Option.some.injEq] at h'
    exact ⟨d, k, j, p, v, t, t1, t2, e1, rfl, by rw [← h']; rfl, e3, e4⟩
theorem get_tabT {w : World} {A : Around} {E : Value → Shared → Prop} {s : Shared} {st : SymSt} {o : Obj} {l : List ((Int ⊕ Str) × Int)} {es : Array DictEntry} {ep : Nat} {xs : List (List Int × Addr × Value)} {ks : List (Addr × Obj)} {D p : Addr} {k j v : Int} {t : Tok} {i : Nat} {Q : Value → Shared → Prop}
    (ho : s.heap.get? D = some o) (hc : o.ExactDict) (hd : o.data = .dict es ep) (he : es.toList = xs.map (entryOfKey (tupleKind (intKind PG w)))) (hn : (xs.map (·.1)).Nodup) (hK : TabK st l xs ks) (hks : ∀ q ∈ ks, s.heap.get? q.1 = some q.2) (hx : xs[i]? = some ([k, j], p, .int v t)) (hu : A.units + 1 < cLine)
    (h : Q (.int v t) { s with toks := s.toks + 3 }) : wpAny (model PG w) A (getItem (.ref D) (.ref p)) Q E s := by
  have his : ∀ y ∈ xs, (tupleKind (intKind PG w)).is s.heap y.1 y.2.1 := fun y hy => by
    refine let_goal ?_
    intro gl_P
    obtain ⟨i, j, t1, t2, e, mm⟩ := hK.keys y hy
    dsimp only [gl_P]
    clear gl_P
    rw [e]; exact tupKey_of (hks _ mm)
  refine wpAny_getItem_heap (knd := tupleKind (intKind PG w)) (k := [k, j]) (p := (p, .int v t)) (tupleKind_room_in1 hu) (his _ (List.mem_of_getElem? hx)) ⟨o, es, ep, ho, hc, hd, he, his, hn⟩ (atKey_get hn hx) ?_
  exact h
theorem TabF.get {st : SymSt} {l : List ((Str × Int) × Int)} {l' : List (Int × Int)} (x : TabF st l l') {i : Nat} {y : Int × Int} (h : l'[i]? = some y) : ∃ f, l[i]? = some (f, y.2) ∧ FunIs st f y.1 := by
  induction x with
  | nil => simp at h
  | @snoc l l' f j v x' hf ih =>
    have hlen := x'.len
    rcases Nat.lt_or_ge i l'.length with q | q
    · rw [List.getElem?_append_left q] at h
      obtain ⟨f', e1, e2⟩ := ih h
      exact ⟨f', by rw [List.getElem?_append_left (by walk_at "mine om")]; exact e1, e2⟩
    · rw [List.getElem?_append_right q] at h
      have hi : i = l'.length := by
        rcases Nat.eq_or_lt_of_le q with q | q
        · exact q.symm
        · rw [List.getElem?_eq_none (by simp; walk_at "mine om")] at h; cases h
      subst hi
      simp only [Nat.sub_self, List.getElem?_cons_zero, Option.some.injEq] at h
      subst h
      exact ⟨f, by rw [List.getElem?_append_right (by walk_at "mine om"), hlen]; simp, hf⟩
theorem FunIs.nonneg {st : SymSt} {f : Str × Int} {i : Int} (x : FunIs st f i) : 0 ≤ i := by cases x; exact Int.natCast_nonneg _
theorem valueAt_get {kvs : List (Int × Value)} (hn : (kvs.map (·.1)).Nodup) {i : Nat} {k : Int} {y : Value} (h : kvs[i]? = some (k, y)) : valueAt kvs k = some y := by
  unfold valueAt
  induction kvs generalizing i with
  | nil => simp at h
  | cons x r ih =>
    rw [List.map_cons, List.nodup_cons] at hn
    cases i with
    | zero =>
      simp only [List.getElem?_cons_zero, Option.some.injEq] at h
      subst h; simp
    | succ i =>
      dsimp only [List.getElem?_cons_succ] at h
      have hm : k ∈ r.map (·.1) := List.mem_map.mpr ⟨_, List.mem_of_getElem? h, rfl⟩
      have hne : x.1 ≠ k := fun e => hn.1 (e ▸ hm)
      rw [List.find?_cons, show decide (x.1 = k) = false by simp [hne]]
      exact ih hn.2 h
theorem flat_get {enc : Int → PyData} {kvs : List (Int × Value)} {D : List (PyData × PyData)} (p : PyProof.V.FlatPairs enc kvs D) : ∀ {i : Nat} {k : Int} {x : Value}, kvs[i]? = some (k, x) → ∃ d, D[i]? = some (enc k, d) ∧ PyProof.V.Flat x d := by
  induction p with
  | nil => intro i k x h; simp at h
  | cons hf _ ih =>
    intro i k x h
    cases i with
    | zero =>
      simp only [List.getElem?_cons_zero, Option.some.injEq, Prod.mk.injEq] at h
      obtain ⟨rfl, rfl⟩ := h
      exact ⟨_, rfl, hf⟩
    | succ i => exact ih h
theorem tabU_item {w : World} {st : SymSt} {l : List ((Str × Int) × Int)} {l' : List (Int × Int)} {kvs : List (Int × Value)} {es : Array DictEntry} (hp : Pairs (intKind PG w) es.toList kvs) (hP : PyProof.V.FlatPairs PyData.int kvs (tabD l')) (hF : TabF st l l') {i : Nat} {e : DictEntry} (h : es[i]? = some e) :
    ∃ f j v t u, l[i]? = some (f, v) ∧ kvs[i]? = some (j, .int v t) ∧ e.key = .int j u ∧ FunIs st f j := by
  have h' : es.toList[i]? = some e := by simpa using h
  have hl1 : es.toList.length = kvs.length := hp.length
  have hl2 : (tabD l').length = kvs.length := hP.length
  have hi : i < es.toList.length := (List.getElem?_eq_some_iff.mp h').1
  have hi' : i < l'.length := by simp only [List.length_map] at hl2; walk_at "mine om"
  refine let_goal ?_
  intro gl_P
  obtain ⟨⟨j, vv⟩, hy⟩ : ∃ y, l'[i]? = some y := ⟨l'[i], by simp [hi']⟩
  obtain ⟨f, e1, e2⟩ := hF.get hy
  obtain ⟨⟨k, x⟩, hk⟩ : ∃ y, kvs[i]? = some y := ⟨kvs[i]'(by walk_at "mine om"), by simp⟩
  obtain ⟨dd, hq1, hq2⟩ := flat_get hP hk
  dsimp only [gl_P]
  clear gl_P
  rw [List.getElem?_map, hy] at hq1
  simp only [Option.map_some, Option.some.injEq, Prod.mk.injEq, PyData.int.injEq] at hq1
  obtain ⟨rfl, rfl⟩ := hq1
  obtain ⟨t, rfl⟩ := hq2.int_inv
  obtain ⟨g1, g2⟩ := hp.get? h' hk
  obtain ⟨u, gu⟩ := Value.isInt_shape g1
  exact ⟨f, j, vv, t, u, e1, hk, gu, e2⟩
theorem get_tabU {w : World} {A : Around} {E : Value → Shared → Prop} {s : Shared} {o : Obj} {kvs : List (Int × Value)} {es : Array DictEntry} {ep : Nat} {D : Addr} {j v : Int} {t u : Tok} {i : Nat} {Q : Value → Shared → Prop}
    (ho : s.heap.get? D = some o) (hc : o.ExactDict) (hd : o.data = .dict es ep) (hk : KeysOf (intKind PG w) es) (hp : Pairs (intKind PG w) es.toList kvs) (hn : (kvs.map (·.1)).Nodup) (hx : kvs[i]? = some (j, .int v t))
    (h : Q (.int v t) { s with toks := s.toks + 1 }) : wpAny (model PG w) A (getItem (.ref D) (.int j u)) Q E s :=
  wpAny_getItem_of (knd := intKind PG w) (k := j) (by simp [intKind, Value.isInt]) (Heap.DictOf.mapOf ⟨o, es, ep, ho, hc, hd, hk, hp, hn⟩) (valueAt_get hn hx) h
section
variable {w : World} {A : Around} {E : Value → Shared → Prop} {s : Shared} {st : SymSt} {o : Obj} {l : List ((Str × Int) × Int)} {news rest : List (Addr × Obj)} {D : Addr} {f : Str × Int} {i v : Int} {t u : Tok} {h₀ : Heap} {L : Addr} {m : Str → Option Value}
theorem TabU.le {st' : SymSt} (q : st.le st') (x : TabU w st o l) : TabU w st' o l := by obtain ⟨kvs, l', a, b, c, d⟩ := x; exact ⟨kvs, l', a, b, c, d.le q⟩
theorem tabU_nil (hd : o.IsDictOf (intKind PG w) []) : TabU w st o [] := ⟨[], [], hd, .nil, List.nodup_nil, .nil⟩
theorem in_tabU {Q : Value → Shared → Prop} (x : TabU w st o l) (N : News h₀ L s.heap news) (hD : (D, o) ∈ news) (hT : st.texts.Nodup) (hF : st.funs.Nodup) (hf : FunIs st f i) (low : (D == sysModules) = false)
    (h : Q (.bool (hasK l f)) { s with toks := s.toks + 1 }) : wpAny (model PG w) A (compareOp .In (.int i t) (.ref D)) Q E s := by
  obtain ⟨kvs, l', hd, hfl, hn, hF'⟩ := x
  refine in_tab PyProof.V.same_int (intKind_is PG w i t) (TabAt.ofObj low (N.get hD) hd hfl) ?_
  rw [hF'.at hT hF hf]; exact h
theorem set_tabU {Q : Unit → Shared → Prop} (x : TabU w st o l) (F : Fr h₀ L s.heap m) (N : News h₀ L s.heap ((D, o) :: rest)) (hr : ∀ q ∈ rest, q.1 ≠ D) (hT : st.texts.Nodup) (hF : st.funs.Nodup) (hf : FunIs st f i) (hno : hasK l f = false) (hz : l.length ≤ 10000)
    (h : ∀ h' o', Fr h₀ L h' m → News h₀ L h' ((D, o') :: rest) → TabU w st o' (l ++ [(f, v)]) → Q () { s with heap := h', toks := s.toks + 1 }) :
    wpAny (model PG w) A (setItem (.ref D) (.int i t) (.int v u)) Q E s := by
  obtain ⟨kvs, l', hd, hfl, hn, hF'⟩ := x
  have hz' : (tabD l').length ≤ sizeLine := by rw [List.length_map, hF'.len]; exact Nat.le_trans hz (by decide)
  refine setItem_made_int (PyProof.V.Flat.int v u) F N hr hd hfl (fun h' o' F9 N9 hd9 hf9 => ?_) hz'
  exact h h' o' F9 N9 (tabU_snoc hT hF hF' hn hf hno hd9 hf9)
end
end
section
theorem words_J24 : True := by
  k_with "J24 TurnS" => ((first | with_reducible refine TurnS.ret ?_ | with_reducible refine TurnS.brk ?_); (try dsimp only))
  trivial
local macro_rules | `(tactic| walk_at $s) => fwd "J24 " s
section
theorem words_J25 : True := by
  k_with "J25 subscriptTail" => refine Hold.in ?_
  k_with "J25 call ref" => (k_here; k_dflt (refine' Spec.useV (is_key_int _ _ _ _ _ _ _) ?k1_J25_1 ?k2_J25_1 ?k3_J25_1 ?k4_J25_1 ?k5_J25_1 ?kK_J25_1 ?kd_J25_1 ?ku_J25_1 ?_; (case k1_J25_1 => k_asm); (case k2_J25_1 => k_asm); (case k3_J25_1 => k_asm); (case k4_J25_1 => k_asm); (case k5_J25_1 => k_asm); (case kK_J25_1 => first | exact rfl | assumption); (case kd_J25_1 => ktr_room); (case ku_J25_1 => ktr_units); intro h9_w tk9_w K9_w F9_w N9_w; (try k_fold); (try k_sweep)))
  k_with "J25 call ref" => (k_here; k_dflt (refine' Spec.useV (is_target_int _ _ _ _ _ _) ?k1_J25_2 ?k2_J25_2 ?k3_J25_2 ?k4_J25_2 ?k5_J25_2 ?kK_J25_2 ?kd_J25_2 ?ku_J25_2 ?_; (case k1_J25_2 => k_asm); (case k2_J25_2 => k_asm); (case k3_J25_2 => k_asm); (case k4_J25_2 => k_asm); (case k5_J25_2 => k_asm); (case kK_J25_2 => first | exact rfl | assumption); (case kd_J25_2 => ktr_room); (case ku_J25_2 => ktr_units); intro h9_w tk9_w K9_w F9_w N9_w; (try k_fold); (try k_sweep)))
  k_with "J25 call ref" => (k_here; k_dflt (refine' Spec.useP (is_key_con _ _ _ _ _ _ _ _ _ _ ?kx0_J25_3) ?k1_J25_3 ?k2_J25_3 ?k3_J25_3 ?k4_J25_3 ?k5_J25_3 ?kK_J25_3 ?kd_J25_3 ?ku_J25_3 ?kp_J25_3 ?_; (case kp_J25_3 => walk_at "mine held"); (case kx0_J25_3 => first | assumption | walk_at "mine om"); (case k1_J25_3 => k_asm); (case k2_J25_3 => k_asm); (case k3_J25_3 => k_asm); (case k4_J25_3 => k_asm); (case k5_J25_3 => k_asm); (case kK_J25_3 => first | exact rfl | assumption); (case kd_J25_3 => ktr_room); (case ku_J25_3 => ktr_units); intro h9_w tk9_w K9_w F9_w N9_w; (try k_fold); (try k_sweep)))
  trivial
local macro_rules | `(tactic| walk_at $s) => fwd "J25 " s
theorem off_TabsW : True := by
  w_top off
  trivial
local macro_rules | `(tactic| walk_at $s) => Lean.Macro.throwUnsupported
theorem is_table_T (w mean mg mb) (D : Addr) (st : SymSt) (l : List ((Int ⊕ Str) × Int)) (u : Tok) (low : (D == sysModules) = false) (hnn : ∀ q ∈ l, 0 ≤ q.2) : Spec w mean mg mb 264 [.ref D, .str (Str.ofString "T") u, .bool true] [] 12 140 (TabAtT w st D l) (IsV (.bool true)) NoExc := by
  refine Spec.of ?_
  intro dp un gd cn cs a ccd cl outer A₀ base h₀ L m hh gn dr tk os Q E B F X N T hk hd hu hpre hret hthr
  have hB : Bind [(Str.ofString "value", Value.ref D), (Str.ofString "kind", Value.str (Str.ofString "T") u), (Str.ofString "linked", Value.bool true)] := .is
  refine let_goal ?_
  intro gl_P
  obtain ⟨o, ks, ho0, ⟨es, ep, xs, hx, hda, he, hnd, hK⟩, hks0⟩ := hpre
  dsimp only [gl_P]
  clear gl_P
  walk_at "mine enter"
  have ho := (‹Keeps hh _ _› : Keeps hh _ _) _ _ ho0 (by first | walk_at "mine mem1" | simp)
  have hks := fun q hq => (‹Keeps hh _ _› : Keeps hh _ _) _ _ (hks0 q hq) (by first | walk_at "mine mem1" | simp)
  have hcl := hx.1
  k_steps
  walk_at "mine for"
  unfold Hold
  rename Fr _ _ _ _ => lF'
  rename News _ _ _ _ => lN'
  refine dict_s (σ := Unit) (es := es) (fun _ => []) (fun _ => []) [] (fun _ _ => True) () rfl low ho hx hda lF' lN' (fun _ h => nomatch h) trivial ?_ ?_
  · intro i e c u h tk own hee hI ho9 F1 N1
    clear lF' lN'
    refine let_goal ?_
    intro gl_P
    obtain ⟨d, k, j, p, v, t, t1, t2, g1, g2, g3, g4, g5⟩ := tabT_item he hK hee
    dsimp only [gl_P]
    clear gl_P
    rw [g3] at F1
    have htp := isTup_of (hks _ g4)
    have hkk := g5.key
    have hv0 : 0 ≤ v := hnn _ (List.mem_of_getElem? g1)
    k_steps
    unfold Hold
    refine tail_any (RawDict.typeIs (es := es) (ep := ep) ⟨o, Fr.keep (by assumption) _ _ ho, hx, hda⟩) slot_dict_getitem.lookup (get_tabT (Fr.keep (by assumption) _ _ ho) hx hda he hnd hK (fun q hq => Fr.keep (by assumption) _ _ (hks q hq)) g2 (by ktr_units) ?_) (by with_unfolding_all rfl)
    k_steps
    exact TurnS.next () (by assumption) (by assumption) (by walk_at "mine in") (by assumption) trivial (fun _ h => nomatch h) (by walk_at "mine same")
  · intro c u h tk hI F1 N1
    clear lF' lN'
    (try dsimp only)
    k_steps
    exact ret_pure hret (by assumption) (by assumption) rfl
theorem is_table_U (w mean mg mb) (D : Addr) (st : SymSt) (l : List ((Str × Int) × Int)) (u : Tok) (low : (D == sysModules) = false) (hnn : ∀ q ∈ l, 0 ≤ q.2) : Spec w mean mg mb 264 [.ref D, .str (Str.ofString "U") u, .bool true] [] 12 140 (TabAtU w st D l) (IsV (.bool true)) NoExc := by
  refine Spec.of ?_
  intro dp un gd cn cs a ccd cl outer A₀ base h₀ L m hh gn dr tk os Q E B F X N T hk hd hu hpre hret hthr
  have hB : Bind [(Str.ofString "value", Value.ref D), (Str.ofString "kind", Value.str (Str.ofString "U") u), (Str.ofString "linked", Value.bool true)] := .is
  refine let_goal ?_
  intro gl_P
  obtain ⟨o, ho0, kvs, l', ⟨es, ep, hx, hda, hkeys, hpairs, hnd⟩, hfl, hnd', hF⟩ := hpre
  dsimp only [gl_P]
  clear gl_P
  walk_at "mine enter"
  have ho := (‹Keeps hh _ _› : Keeps hh _ _) _ _ ho0 (by first | walk_at "mine mem1" | simp)
  have hcl := hx.1
  k_steps
  walk_at "mine for"
  unfold Hold
  rename Fr _ _ _ _ => lF'
  rename News _ _ _ _ => lN'
  refine dict_s (σ := Unit) (es := es) (fun _ => []) (fun _ => []) [] (fun _ _ => True) () rfl low ho hx hda lF' lN' (fun _ h => nomatch h) trivial ?_ ?_
  · intro i e c u h tk own hee hI ho9 F1 N1
    clear lF' lN'
    refine let_goal ?_
    intro gl_P
    obtain ⟨f, j, v, t, t1, g1, g2, g3, g5⟩ := tabU_item hpairs hfl hF hee
    dsimp only [gl_P]
    clear gl_P
    rw [g3] at F1
    have hj0 := g5.nonneg
    have hv0 : 0 ≤ v := hnn _ (List.mem_of_getElem? g1)
    k_steps
    unfold Hold
    refine tail_any (RawDict.typeIs (es := es) (ep := ep) ⟨o, Fr.keep (by assumption) _ _ ho, hx, hda⟩) slot_dict_getitem.lookup (get_tabU (Fr.keep (by assumption) _ _ ho) hx hda hkeys hpairs hnd g2 ?_) (by with_unfolding_all rfl)
    k_steps
    exact TurnS.next () (by assumption) (by assumption) (by walk_at "mine in") (by assumption) trivial (fun _ h => nomatch h) (by walk_at "mine same")
  · intro c u h tk hI F1 N1
    clear lF' lN'
    (try dsimp only)
    k_steps
    exact ret_pure hret (by assumption) (by assumption) rfl
end
theorem off_TabsX : True := by
  w_top off
  trivial
section
noncomputable def okS (k : Str) : Opd → Bool
  | .reg y i => if k == Str.ofString "R" then ([Str.ofString "x", Str.ofString "y"].any fun x => x == y) && decide (1 ≤ i) else if k == Str.ofString "X" then ([Str.ofString "x"].any fun x => x == y) && decide (1 ≤ i) else ([Str.ofString "y"].any fun x => x == y) && decide (1 ≤ i)
  | _ => true
inductive Fits : Str → Opd → Prop
  | R (y : Str) (i : Int) : Fits (Str.ofString "R") (.reg y i)
  | X (y : Str) (i : Int) : Fits (Str.ofString "X") (.reg y i)
  | Y (y : Str) (i : Int) : Fits (Str.ofString "Y") (.reg y i)
  | C (d : Int ⊕ Str) : Fits (Str.ofString "C") (.con d)
  | F (y : Str) (j : Int) : Fits (Str.ofString "F") (.fn y j)
  | N (i : Int) : 0 ≤ i → Fits (Str.ofString "N") (.num i)
  | L (i : Int) : 0 ≤ i → Fits (Str.ofString "L") (.num i)
  | T (l : List ((Int ⊕ Str) × Int)) : (∀ q ∈ l, 0 ≤ q.2) → Fits (Str.ofString "T") (.tabT l)
  | U (l : List ((Str × Int) × Int)) : (∀ q ∈ l, 0 ≤ q.2) → Fits (Str.ofString "U") (.tabU l)
noncomputable abbrev Held (own : List (Addr × Obj)) (h : Heap) : Prop := ∀ q ∈ own, h.get? q.1 = some q.2
theorem Spec.weaken {w : World} {mean : ExcName → Option Value} {mg mb : Str → Option Value} {f : Addr} {vs : List Value} {mu : List (Addr × Obj)} {dn un dn' un' : Nat} {pre pre' : Heap → Prop} {post : Heap → Heap → Value → Prop} {exc : Heap → Heap → Prop}
    (S : Spec w mean mg mb f vs mu dn un pre post exc) (h1 : ∀ h, pre' h → pre h) (h2 : dn ≤ dn') (h3 : un ≤ un') : Spec w mean mg mb f vs mu dn' un' pre' post exc := by
  intro dp un gd cn cs a ccd cl outer A₀ base h₀ L m s Q E B F X N T hk hd hu hp hr ht
  exact S dp un gd cn cs a ccd cl outer A₀ base h₀ L m s Q E B F X N T hk (by walk_at "mine om") (by walk_at "mine om") (h1 _ hp) hr ht

theorem words_J26 : True := by
  k_with "J26 mine held" => first | exact TabAtT.keep (by assumption) (Fr.keep (by assumption)) | exact TabAtU.keep (by assumption) (Fr.keep (by assumption))
  k_with "J26 call ref" => (k_here; k_dflt (refine' Spec.useP (is_table_T _ _ _ _ _ _ _ _ ?kx0_J26_1 ?kx1_J26_1) ?k1_J26_1 ?k2_J26_1 ?k3_J26_1 ?k4_J26_1 ?k5_J26_1 ?kK_J26_1 ?kd_J26_1 ?ku_J26_1 ?kp_J26_1 ?_; (case kp_J26_1 => walk_at "mine held"); (case kx0_J26_1 => first | assumption | walk_at "mine om"); (case kx1_J26_1 => first | assumption | walk_at "mine om"); (case k1_J26_1 => k_asm); (case k2_J26_1 => k_asm); (case k3_J26_1 => k_asm); (case k4_J26_1 => k_asm); (case k5_J26_1 => k_asm); (case kK_J26_1 => first | exact rfl | assumption); (case kd_J26_1 => ktr_room); (case ku_J26_1 => ktr_units); intro h9_w tk9_w K9_w F9_w N9_w; (try k_fold); (try k_sweep)))
  k_with "J26 call ref" => (k_here; k_dflt (refine' Spec.useP (is_table_U _ _ _ _ _ _ _ _ ?kx0_J26_2 ?kx1_J26_2) ?k1_J26_2 ?k2_J26_2 ?k3_J26_2 ?k4_J26_2 ?k5_J26_2 ?kK_J26_2 ?kd_J26_2 ?ku_J26_2 ?kp_J26_2 ?_; (case kp_J26_2 => walk_at "mine held"); (case kx0_J26_2 => first | assumption | walk_at "mine om"); (case kx1_J26_2 => first | assumption | walk_at "mine om"); (case k1_J26_2 => k_asm); (case k2_J26_2 => k_asm); (case k3_J26_2 => k_asm); (case k4_J26_2 => k_asm); (case k5_J26_2 => k_asm); (case kK_J26_2 => first | exact rfl | assumption); (case kd_J26_2 => ktr_room); (case ku_J26_2 => ktr_units); intro h9_w tk9_w K9_w F9_w N9_w; (try k_fold); (try k_sweep)))
  trivial
local macro_rules | `(tactic| walk_at $s) => fwd "J26 " s
theorem is_operand_T (w mean mg mb) (D : Addr) (st : SymSt) (l : List ((Int ⊕ Str) × Int)) (u : Tok) (low : (D == sysModules) = false) (hnn : ∀ q ∈ l, 0 ≤ q.2) : Spec w mean mg mb 271 [.ref D, .str (Str.ofString "T") u, .bool true] [] 15 180 (TabAtT w st D l) (IsV (.bool true)) NoExc := by
  refine Spec.of ?_
  intro dp un gd cn cs a ccd cl outer A₀ base h₀ L m hh gn dr tk os Q E B F X N T hk hd hu hpre hret hthr
  have hB : Bind [(Str.ofString "value", Value.ref D), (Str.ofString "kind", Value.str (Str.ofString "T") u), (Str.ofString "linked", Value.bool true)] := .is
  walk_at "mine enter"
  have ht := TabAtT.keep0 (by assumption) hpre
  k_steps
  all_goals exact ret_pure hret (by assumption) (by assumption) rfl
theorem is_operand_U (w mean mg mb) (D : Addr) (st : SymSt) (l : List ((Str × Int) × Int)) (u : Tok) (low : (D == sysModules) = false) (hnn : ∀ q ∈ l, 0 ≤ q.2) : Spec w mean mg mb 271 [.ref D, .str (Str.ofString "U") u, .bool true] [] 15 180 (TabAtU w st D l) (IsV (.bool true)) NoExc := by
  refine Spec.of ?_
  intro dp un gd cn cs a ccd cl outer A₀ base h₀ L m hh gn dr tk os Q E B F X N T hk hd hu hpre hret hthr
  have hB : Bind [(Str.ofString "value", Value.ref D), (Str.ofString "kind", Value.str (Str.ofString "U") u), (Str.ofString "linked", Value.bool true)] := .is
  walk_at "mine enter"
  have ht := TabAtU.keep0 (by assumption) hpre
  k_steps
  all_goals exact ret_pure hret (by assumption) (by assumption) rfl
theorem is_operand_ok (w mean mg mb) (st : SymSt) (d : Opd) (v : Value) (own : List (Addr × Obj)) (k : Str) (u : Tok) (hf : Fits k d) (hv : OpV w st d v own) : Spec w mean mg mb 271 [v, .str k u, .bool true] [] 15 180 (Held own) (IsV (.bool (okS k d))) NoExc := by
  cases hf with
  | R y i => cases hv with | reg _ _ p t1 t2 => exact (is_operand_R w mean mg mb p y i t1 t2 u).weaken (fun h hh => isTup_of (hh _ (.head _))) (by decide) (by decide)
  | X y i => cases hv with | reg _ _ p t1 t2 => exact (is_operand_X w mean mg mb p y i t1 t2 u).weaken (fun h hh => isTup_of (hh _ (.head _))) (by decide) (by decide)
  | Y y i => cases hv with | reg _ _ p t1 t2 => exact (is_operand_Y w mean mg mb p y i t1 t2 u).weaken (fun h hh => isTup_of (hh _ (.head _))) (by decide) (by decide)
  | C d => cases hv with | con p t1 t2 hc => exact (is_operand_C w mean mg mb p _ _ t1 t2 u hc.key).weaken (fun h hh => isTup_of (hh _ (.head _))) (by decide) (by decide)
  | F y j => cases hv with | @fn _ _ i n t h1 h2 =>
    have e := is_operand_F w mean mg mb (i : Int) t u
    rw [show decide ((0 : Int) ≤ (i : Int)) = true from decide_eq_true (Int.natCast_nonneg i)] at e
    exact e.weaken (fun h hh => trivial) (by decide) (by decide)
  | N i hi => cases hv with | num _ t =>
    have e := is_operand_N w mean mg mb i t u
    rw [decide_eq_true hi] at e
    exact e.weaken (fun h hh => trivial) (by decide) (by decide)
  | L i hi => cases hv with | num _ t =>
    have e := is_operand_L w mean mg mb i t u
    rw [decide_eq_true hi] at e
    exact e.weaken (fun h hh => trivial) (by decide) (by decide)
  | T l hn => cases hv with | tabT D o low x => exact (is_operand_T w mean mg mb D st l u low hn).weaken (fun h hh => ⟨o, _, hh _ (.head _), x, fun q hq => hh _ (.tail _ hq)⟩) (by decide) (by decide)
  | U l hn => cases hv with | tabU D o low x => exact (is_operand_U w mean mg mb D st l u low hn).weaken (fun h hh => ⟨o, hh _ (.head _), x⟩) (by decide) (by decide)
end
theorem off_CHK : True := by
  w_top off
  trivial
section
inductive OpsV (w : World) (st : SymSt) : List Nat → List Opd → List Value → List (Addr × Obj) → Prop
  | nil : OpsV w st [] [] [] []
  | snoc {cs : List Nat} {ds : List Opd} {vs : List Value} {own own' : List (Addr × Obj)} {c : Nat} {d : Opd} {v : Value} : OpsV w st cs ds vs own → Fits ⟨#[c]⟩ d → OpV w st d v own' → OpsV w st (cs ++ [c]) (ds ++ [d]) (vs ++ [v]) (own' ++ own)
section
variable {w : World} {st st' : SymSt} {cs : List Nat} {ds : List Opd} {vs : List Value} {own : List (Addr × Obj)}
theorem OpsV.le (q : st.le st') (x : OpsV w st cs ds vs own) : OpsV w st' cs ds vs own := by
  induction x with
  | nil => exact .nil
  | snoc _ f o ih => exact .snoc ih f (o.le q)
theorem OpsV.len (x : OpsV w st cs ds vs own) : ds.length = cs.length ∧ vs.length = cs.length := by
  induction x with
  | nil => exact ⟨rfl, rfl⟩
  | snoc _ _ _ ih => simp [ih.1, ih.2]
theorem OpsV.get (x : OpsV w st cs ds vs own) {i : Nat} (hi : i < cs.length) : ∃ c d v own', cs[i]? = some c ∧ ds[i]? = some d ∧ vs[i]? = some v ∧ Fits ⟨#[c]⟩ d ∧ OpV w st d v own' ∧ ∀ q ∈ own', q ∈ own := by
  induction x with
  | nil => simp at hi
  | @snoc cs ds vs own own' c d v x' f o ih =>
    obtain ⟨e1, e2⟩ := x'.len
    rcases Nat.lt_or_ge i cs.length with q | q
    · obtain ⟨c', d', v', o', a1, a2, a3, a4, a5, a6⟩ := ih q
      exact ⟨c', d', v', o', by rw [List.getElem?_append_left q]; exact a1, by rw [List.getElem?_append_left (by walk_at "mine om")]; exact a2, by rw [List.getElem?_append_left (by walk_at "mine om")]; exact a3, a4, a5, fun q hq => List.mem_append.mpr (.inr (a6 q hq))⟩
    · have hi' : i = cs.length := by simp at hi; walk_at "mine om"
      subst hi'
      exact ⟨c, d, v, own', by simp, by rw [← e1]; simp, by rw [← e2]; simp, f, o, fun q hq => List.mem_append.mpr (.inl hq)⟩
end
noncomputable def okAll : List Nat → List Opd → Bool
  | c :: cs, d :: ds => okS ⟨#[c]⟩ d && okAll cs ds
  | _, _ => true
theorem okAll_false {cs : List Nat} {ds : List Opd} {i c : Nat} {d : Opd} (h1 : cs[i]? = some c) (h2 : ds[i]? = some d) (h3 : okS ⟨#[c]⟩ d = false) : okAll cs ds = false := by
  induction cs generalizing ds i with
  | nil => exact nomatch (h1 : none = some c)
  | cons x cs ih =>
    cases ds with
    | nil => exact nomatch (h2 : none = some d)
    | cons y ds =>
      cases i with
      | zero => cases Option.some.inj h1; cases Option.some.inj h2; exact (congrArg (· && okAll cs ds) h3).trans rfl
      | succ i => exact (congrArg (okS ⟨#[x]⟩ y && ·) (ih h1 h2)).trans (Bool.and_false _)
theorem okAll_true : ∀ {cs : List Nat} {ds : List Opd}, (∀ (i c : Nat) (d : Opd), cs[i]? = some c → ds[i]? = some d → okS ⟨#[c]⟩ d = true) → okAll cs ds = true := by
  intro cs
  induction cs with
  | nil => intro ds _; rfl
  | cons c cs ih =>
    intro ds h
    cases ds with
    | nil => rfl
    | cons d ds => exact (congrArg (· && okAll cs ds) (h 0 c d rfl rfl)).trans (ih fun i c d h1 h2 => h (i + 1) c d h1 h2)
noncomputable abbrev FormsAt (tb : Addr) (D : List (PyData × PyData)) (w : World) (h : Heap) : Prop := TabAt (strKind PG w) PyData.str h tb D
theorem forms_keep0 {tb : Addr} {D : List (PyData × PyData)} {w : World} {h h' : Heap} (k : Keeps h h' (([] : List (Addr × Obj)).map (·.1))) (x : FormsAt tb D w h) : FormsAt tb D w h' := TabAt.keep x fun b o e => k b o e (fun q => nomatch q)
theorem held_keep0 {own : List (Addr × Obj)} {h h' : Heap} (k : Keeps h h' (([] : List (Addr × Obj)).map (·.1))) (x : Held own h) : Held own h' := fun q hq => k _ _ (x q hq) (fun q => nomatch q)
theorem len_tupL {w : World} {A : Around} {E : Value → Shared → Prop} {s : Shared} {p : Addr} {x : Value} {vs : List Value} {n : Nat} {Q : Value → Shared → Prop} (hl : IsTup s.heap p (x :: vs).toArray) (hn : vs.length = n) (hz : n ≤ 100) (h : Q (.int ((n : Int) + 1) (s.toks + 1)) { s with toks := s.toks + 1 + 1 }) :
    wpAny (model PG w) A (call (.builtin "len") [.ref p]) Q E s :=
  kun_lenT hl (by subst hn; simp) (by walk_at "mine om") h
section
variable {w : World} {A : Around} {E : Value → Shared → Prop} {s : Shared} {value slice : PySem.Expr} {t : Addr} {Q : Value → Shared → Prop}
theorem item_first {u : Tok} {x : Value} {vs : List Value} (ht : IsTup s.heap t (x :: vs).toArray) (h : Q x s)
    (hs : subscripted slice false (.ref t) (.int 0 u) = operate [.ref t, .int 0 u] (getItem (.ref t) (.int 0 u))) (hg : ∀ r, letTemporaryGo value (.ref t) r = pure ()) : wpAny (model PG w) A (subscriptTail value slice (.ref t) (.int 0 u)) Q E s :=
  item_tupleL (j := 0) ht (by decide) (by decide) (by simp [seqIndex?]) rfl h hs hg
theorem item_next {u : Tok} {x v : Value} {vs : List Value} {i : Nat} {k : Int} (ht : IsTup s.heap t (x :: vs).toArray) (hi : vs[i]? = some v) (hk : k = (i : Int) + 1) (hz : vs.length ≤ 100) (h : Q v s)
    (hs : subscripted slice false (.ref t) (.int k u) = operate [.ref t, .int k u] (getItem (.ref t) (.int k u))) (hg : ∀ r, letTemporaryGo value (.ref t) r = pure ()) : wpAny (model PG w) A (subscriptTail value slice (.ref t) (.int k u)) Q E s := by
  have hl := (List.getElem?_eq_some_iff.mp hi).1
  refine item_tupleL (j := i + 1) ht (by walk_at "mine om") (by walk_at "mine om") ?_ (by simpa using hi) h hs hg
  unfold seqIndex?
  rw [if_neg (by walk_at "mine om" : ¬ k < 0)]
  simp only [List.length_cons]
  rw [if_pos (by simp only [Bool.and_eq_true, decide_eq_true_eq]; walk_at "mine om")]
  congr 1; walk_at "mine om"
theorem item_forms {D : List (PyData × PyData)} {nm ks : Str} {u : Tok} (T : FormsAt t D w s.heap) (hl : PySem.Spec.lookup (.str nm) D = some (.str ks)) (h : ∀ t', Q (.str ks t') { s with toks := s.toks + 1 })
    (hs : subscripted slice false (.ref t) (.str nm u) = operate [.ref t, .str nm u] (getItem (.ref t) (.str nm u))) (hg : ∀ r, letTemporaryGo value (.ref t) r = pure ()) : wpAny (model PG w) A (subscriptTail value slice (.ref t) (.str nm u)) Q E s :=
  item_tab PyProof.V.same_str (strKind_is PG w nm u) T hl (fun v hv => by obtain ⟨t', rfl⟩ := hv.str_inv; exact h t') hs hg
theorem notin_forms {D : List (PyData × PyData)} {nm : Str} {u : Tok} (T : FormsAt t D w s.heap) (h : Q (.bool (!(PySem.Spec.lookup (.str nm) D).isSome)) { s with toks := s.toks + 1 }) : wpAny (model PG w) A (compareOp .NotIn (.str nm u) (.ref t)) Q E s :=
  notin_tab PyProof.V.same_str (strKind_is PG w nm u) T h
end
theorem FormsAt.keep {tb : Addr} {D : List (PyData × PyData)} {w : World} {h h' : Heap} {L : Addr} {m : Str → Option Value} (x : FormsAt tb D w h) (F : Fr h L h' m) : FormsAt tb D w h' := TabAt.keep x F.keep
theorem held_keep {own : List (Addr × Obj)} {h h' : Heap} {L : Addr} {m : Str → Option Value} (x : Held own h) (F : Fr h L h' m) : Held own h' := fun q hq => F.keep _ _ (x q hq)
theorem small10 : ∀ n : Nat, n ≤ 10 → Builtin.Range.small 0 (n : Int) 1 = true := by decide
theorem size10 : ∀ n : Nat, n ≤ 10 → Builtin.Range.rangeSize 0 (n : Int) 1 = (n : Int) := by decide
theorem item_code {x : Str} {i c : Nat} (h : x.cps.toList[i]? = some c) : Txt.item x (0 + (i : Int) * 1) = ⟨#[c]⟩ := by
  have hi := (List.getElem?_eq_some_iff.mp h).1
  have e : (0 : Int) + (i : Int) * 1 = (i : Int) := by walk_at "mine om"
  have hi2 : i < x.length := by simpa [Str.length] using hi
  simp only [Array.getElem?_toList] at h
  rw [e]
  have hs : seqIndex? (i : Int) x.length = some i := by
    unfold seqIndex?
    rw [if_neg (by walk_at "mine om" : ¬ (i : Int) < 0), if_pos (by simp only [Bool.and_eq_true, decide_eq_true_eq]; walk_at "mine om")]
    simp
  simp [Txt.item, Txt.charAt, hs, h]

theorem words_J27 : True := by
  k_with "J27 call builtin:len" => (k_here; k_dflt (refine len_tupL (Fr.tup (by assumption) (by assumption)) (by assumption) (by walk_at "mine om") ?_))
  k_with "J27 subscriptTail" => first | ((with_reducible show wpAny _ _ (subscriptTail _ _ (Value.ref _) (Value.int _ _)) _ _ _); refine item_first (Fr.tup (by assumption) (by assumption)) ?_ (by with_unfolding_all rfl) (by intro _; with_unfolding_all rfl)) | ((with_reducible show wpAny _ _ (subscriptTail _ _ (Value.ref _) (Value.str _ _)) _ _ _); refine item_forms (FormsAt.keep (by assumption) (by assumption)) (by assumption) ?_ (by with_unfolding_all rfl) (by intro _; with_unfolding_all rfl); intro t9_w)
  k_with "J27 subscriptTail" => ((with_reducible show wpAny _ _ (subscriptTail _ _ (Value.ref _) (Value.int _ _)) _ _ _); refine item_next (Fr.tup (by assumption) (by assumption)) (by assumption) (by walk_at "mine om") (by walk_at "mine om") ?_ (by with_unfolding_all rfl) (by intro _; with_unfolding_all rfl))
  k_with "J27 mine held" => exact held_keep (by assumption) (by assumption)
  k_with "J27 call ref" => (k_here; k_dflt (refine' Spec.useP (is_operand_ok _ _ _ _ _ _ _ _ _ _ ?kx0_J27_4 ?kx1_J27_4) ?k1_J27_4 ?k2_J27_4 ?k3_J27_4 ?k4_J27_4 ?k5_J27_4 ?kK_J27_4 ?kd_J27_4 ?ku_J27_4 ?kp_J27_4 ?_; (case kp_J27_4 => walk_at "mine held"); (case kx0_J27_4 => first | assumption | walk_at "mine om"); (case kx1_J27_4 => first | assumption | walk_at "mine om"); (case k1_J27_4 => k_asm); (case k2_J27_4 => k_asm); (case k3_J27_4 => k_asm); (case k4_J27_4 => k_asm); (case k5_J27_4 => k_asm); (case kK_J27_4 => first | exact rfl | assumption); (case kd_J27_4 => ktr_room); (case ku_J27_4 => ktr_units); intro h9_w tk9_w K9_w F9_w N9_w; (try k_fold); (try k_sweep)))
  k_with "J27 compareOp NotIn str ref" => (k_here; k_dflt (refine notin_forms (FormsAt.keep (by assumption) (by assumption)) ?_))
  trivial
local macro_rules | `(tactic| walk_at $s) => fwd "J27 " s
local macro_rules | `(tactic| walk_at $s) => Lean.Macro.throwUnsupported
theorem check_row_ok (w mean mg mb) (st : SymSt) (tb p : Addr) (D : List (PyData × PyData)) (nm ks : Str) (t : Tok) (vs : List Value) (ds : List Opd) (own : List (Addr × Obj)) (hlk : PySem.Spec.lookup (.str nm) D = some (.str ks)) (hnm : nm.length ≤ 30) (hks : ks.length ≤ 10) (hvs : OpsV w st ks.cps.toList ds vs own) :
    Spec w mean mg mb 278 [.ref tb, .ref p, .bool true] [] 20 260 (fun h => FormsAt tb D w h ∧ IsTup h p (Value.str nm t :: vs).toArray ∧ Held own h) (fun _ _ v => v = .none ∧ okAll ks.cps.toList ds = true) (fun _ _ => okAll ks.cps.toList ds = false) := by
  refine Spec.of ?_
  intro dp un gd cn cs a ccd cl outer A₀ base h₀ L m hh gn dr tk os Q E B F X N T hk hd hu hpre hret hthr
  have hB : Bind [(Str.ofString "table", Value.ref tb), (Str.ofString "ins", Value.ref p), (Str.ofString "linked", Value.bool true)] := .is
  obtain ⟨ht0, hp0, ho0⟩ := hpre
  walk_at "mine enter"
  have ht := Keeps.tup0 (by assumption) hp0
  have hF := forms_keep0 (by assumption) ht0
  have hown := held_keep0 (by assumption) ho0
  have hne : ((ks.length : Int) + 1) ≠ 0 := by walk_at "mine om"
  have hlen : vs.length = ks.length := by rw [hvs.len.2]; simp [Str.length]
  have hsome : (PySem.Spec.lookup (.str nm) D).isSome = true := by rw [hlk]; rfl
  k_steps
  · exfalso; walk_at "mine om"
  · exact absurd rfl ‹(ks.length : Int) + 1 ≠ (ks.length : Int) + 1›
  · walk_at "mine for"
    unfold Hold
    rename Fr _ _ _ _ => lF'
    rename News _ _ _ _ => lN'
    have hcl : ks.cps.toList.length = ks.length := by simp [Str.length]
    refine range_s (σ := Unit) (n := ks.length) (fun _ => []) (fun _ => []) [] (fun i _ => ∀ (j c : Nat) (d : Opd), j < i → ks.cps.toList[j]? = some c → ds[j]? = some d → okS ⟨#[c]⟩ d = true) () rfl (by assumption) (small10 _ hks) (size10 _ hks) lF' lN' (fun _ h => nomatch h) (fun j c d h => absurd h (Nat.not_lt_zero _)) ?_ ?_
    · intro i ti cu u h tki own9 hi hI ho9 F1 N1
      clear lF' lN'
      refine let_goal ?_
      intro gl_P
      obtain ⟨c, d, v, own', g1, g2, g3, g4, g5, g6⟩ := hvs.get (i := i) (by rw [hcl]; exact hi)
      dsimp only [gl_P]
      clear gl_P
      have hown' : Held own' _ := fun q hq => hown q (g6 q hq)
      rw [← item_code g1] at g4
      k_steps
      · refine TurnS.next () (by assumption) (by assumption) (by walk_at "mine in") (by assumption) ?_ (fun _ h => nomatch h) (by walk_at "mine same")
        rename okS _ _ = true => hok
        intro j c' d' hj h1 h2
        rcases Nat.lt_or_ge j i with q | q
        · exact hI j c' d' q h1 h2
        · have e : j = i := by walk_at "mine om"
          subst e
          rw [g1] at h1; rw [g2] at h2; cases h1; cases h2
          rw [← item_code g1]; exact hok
      · walk_at "mine thrown"
        intro Bh hB _
        exact okAll_false g1 g2 (by rw [← item_code g1]; assumption)
    · intro c u h tk hI F1 N1
      clear lF' lN'
      (try dsimp only)
      k_steps
      refine hret _ _ _ (keeps_of (h := hh) (by assumption) (by assumption)) ⟨rfl, okAll_true fun i c d h1 h2 => hI i c d ?_ h1 h2⟩
      rw [← hcl]; exact (List.getElem?_eq_some_iff.mp h1).1
end
end
section
theorem words_J28 : True := by
  k_with "J28 mine sameW" => first | (intro z_w h2_w h3_w; (repeat (refine Eq.trans (if_neg (by first | exact ne_cont h3_w (by walk_at "mine mem1") | exact h2_w _ (.head _) | exact h2_w _ (.tail _ (.head _)) | exact h2_w _ (.tail _ (.tail _ (.head _))) | exact h2_w _ (.tail _ (.tail _ (.tail _ (.head _)))) | exact Bool.eq_false_iff.mp h3_w)) ?_)); exact rfl) | (intro z_w h2_w h3_w; (try simp only [List.contains_cons, List.contains_nil, Bool.or_false, Bool.or_eq_false_iff, beq_eq_false_iff_ne, ne_eq] at h3_w); (try simp only [List.forall_mem_cons, List.not_mem_nil, false_implies, implies_true, and_true, ne_eq] at h2_w); first | (simp [h2_w, h3_w, kstB]; done) | (simp [h2_w, kstB]; done))
  k_with "J28 WhlRest" => refine Hold.in ?_
  k_with "J28 exec While BoolOp" => refine Hold.in ?_
  k_with "J28 call ref" => ((with_reducible show wpAny _ _ (call (Value.ref 341) _) _ _ _); k_here; k_dflt (refine' Spec.useI (read_count_spec _ _ _ _ _ _ ?kx0_J28_3) ?k1_J28_3 ?k2_J28_3 ?k3_J28_3 ?k4_J28_3 ?k5_J28_3 ?kK_J28_3 ?kd_J28_3 ?ku_J28_3 ?kp_J28_3 ?_ ?_; (case kx0_J28_3 => first | assumption | walk_at "mine om" | exact And.left (‹¬ _ < _ → _ ∧ _› (by assumption)) | exact And.right (‹¬ _ < _ → _ ∧ _› (by assumption))); (case k1_J28_3 => k_asm); (case k2_J28_3 => k_asm); (case k3_J28_3 => k_asm); (case k4_J28_3 => k_asm); (case k5_J28_3 => k_asm); (case kK_J28_3 => first | exact rfl | assumption); (case kd_J28_3 => ktr_room); (case ku_J28_3 => ktr_units); (case kp_J28_3 => first | trivial | assumption); (intro n9_w t9_w h9_w tk9_w q9_w K9_w F9_w N9_w); (try k_fold); (try k_sweep); (rotate_left 1); (intro e9_w h9_w tk9_w T9_w); (rotate_left 1)))
  trivial
local macro_rules | `(tactic| walk_at $s) => fwd "J28 " s
section
theorem words_J29 : True := by
  k_with "J29 mine om" => with_reducible first | exact rt_g (by assumption) | exact rt_f (by assumption) (by assumption) | exact rtu_a (by assumption) | exact rtu_b (by assumption) | exact rtu_c (by assumption) | exact rtu_d (by assumption) (by assumption) | exact Nat.le_of_eq om_mus | assumption
  k_with "J29 compareOp In ref ref" => refine Hold.in ?_
  k_with "J29 setItem ref ref" => refine Hold.in ?_
  trivial
local macro_rules | `(tactic| walk_at $s) => fwd "J29 " s
theorem off_RT1 : True := by
  w_top off
  trivial
theorem read_table_T (w mean mg mb) (a : SymA) (st : SymSt) (c : Nat) (sy : List (Addr × Obj)) (wl : Addr) (vs : Array Value) (ws : List Str) (i : Nat) (t u : Tok) (hi : i < ws.length) (hz : ws.length ≤ 200) (hq : wl ∉ (symR w a sy).map (·.1)) (hwo : ∀ j, i < j → EntryOk (ws.getD j Str.empty)) :
    Spec w mean mg mb 369 [.ref a.s, .ref wl, .int (i : Int) t, .str (Str.ofString "T") u] (symR w a sy) 14 300 (fun h => SyP w a st c sy ∧ c + ws.length < 10000 ∧ h.IsList wl vs ∧ StrsAre vs.toList ws)
      (SyPostO w a (c + ws.length) sy (RtV w st (tabS conS ws i))) (SyExc w a st (c + ws.length) sy (tabS conS ws i = none)) := by
  obtain ⟨as, ad, a1, a2, a3, a4, k1, k2, k3, k4⟩ := a
  refine Spec.of ?_
  intro dp un gd cn cs a ccd cl outer A₀ base h₀ L m hh gn dr tk os Q E B F X N T hk hd hu hpre hret hthr
  have hB : Bind [(Str.ofString "symbols", Value.ref as), (Str.ofString "words", Value.ref wl), (Str.ofString "place", Value.int (i : Int) t), (Str.ofString "kind", Value.str (Str.ofString "T") u)] := .is
  refine let_goal ?_
  intro gl_P
  obtain ⟨P, hc, hl0, hS⟩ := hpre
  dsimp only [gl_P]
  clear gl_P
  dsimp only [symR, symI, symJ] at *
  walk_at "mine enter"
  have hl : Heap.IsList _ wl vs := let ⟨o, ho, r⟩ := hl0; ⟨o, (‹Keeps hh _ _› : Keeps hh _ _) _ _ ho hq, r⟩
  have hsz : vs.toList.length = ws.length := hS.length
  k_steps
  · walk_at "mine thrown"
    intro Bh hB _
    refine SyExc.newN (by assumption) (by assumption) (fun _ hp => hp) hB ?_ st.le_refl P (by walk_at "mine om")
    unfold tabS; rw [if_pos (by assumption)]
  · have hb : (ws.getD (i : Int).toNat Str.empty != Str.ofString "{") = false := by assumption
    unfold Hold
    refine whl_start 1 ?_
    rename Fr _ _ _ _ => lF'
    rename News _ _ _ _ => lN'
    rename _ ∧ _ ∧ AllLt _ _ => l1
    rename (_ == sysModules) = false => low
    rename Obj.IsDictOf (intKind PG w) _ [] => hiD
    rename Obj => oD
    obtain ⟨D, hD0, _⟩ : ∃ x : Addr, x = _ ∧ News _ _ _ ((x, oD) :: _) := ⟨_, rfl, lN'⟩
    subst hD0
    refine' loop_wh (σ := RtS (Int ⊕ Str)) (fun c => ws.length - c.j) (fun c => (D, c.o) :: (as, instObj 155 ad) :: (ad, dictOf (symE w a1 a2 a3 a4 k1 k2 k3 k4) 4) :: (c.ks ++ c.sy)) (fun c => [(Str.ofString "place", .int (c.j : Int) c.tj)]) [Str.ofString "word", Str.ofString "cut", Str.ofString "key"]
      (fun q => i < q.j ∧ q.j ≤ ws.length ∧ TabT w q.st q.o q.l q.ks ∧ SyP w ⟨as, ad, a1, a2, a3, a4, k1, k2, k3, k4⟩ q.st (c + q.j) q.sy ∧ st.le q.st ∧ (∀ x ∈ q.ks, ∀ p ∈ symR w ⟨as, ad, a1, a2, a3, a4, k1, k2, k3, k4⟩ q.sy, p.1 ≠ x.1) ∧ (∀ x ∈ q.ks, x.1 ≠ D) ∧ (∀ x ∈ q.sy, x.1 ≠ D) ∧ q.l.length ≤ q.j ∧
        (goG conS q.l (ws.drop q.j)).map (fun p => (p.1, p.2 + q.j + 1)) = tabS conS ws i)
      ⟨i + 1, _, [], [], oD, st, sy⟩ lF' lN' ?hps ?hinv ?turn
    case hps => exact List.forall_mem_cons.mpr ⟨by rfl, fun _ h => nomatch h⟩
    case hinv =>
      (try dsimp only)
      refine ⟨by walk_at "mine om", by walk_at "mine om", tabT_nil hiD, P.more (by walk_at "mine om"), st.le_refl, List.forall_mem_nil _, List.forall_mem_nil _, AllLt.off l1.2.2, by simp, ?_⟩
      unfold tabS; rw [if_neg (by rw [show ws.getD i Str.empty = ws.getD (i : Int).toNat Str.empty from rfl, hb]; decide)]
    case turn =>
      rintro ⟨j, tj, l, ks, o, st2, sy2⟩ uu h2 tk2 hI0 ih F2 N2
      with_reducible refine and10 hI0 fun q1 q2 q3 q4 q5 q6 q7 q8 q10 q9 => ?_
      clear hI0
      (try dsimp only at *)
      clear lF' lN'
      have hw : (ws.getD ((j : Int)).toNat Str.empty).length ≤ 18 := (hwo j q1).long
      refine whl_turn (by first | passes_own | with_unfolding_all passes_own) ?_
      k_steps
      · -- no colon
        walk_at "mine thrown"
        intro Bh hB _
        refine SyExc.newN (sy' := sy2) (by assumption) (by assumption) mem_symks hB ?_ q5 q4 (by walk_at "mine om")
        exact go_none (by walk_at "mine om") (by assumption) (by unfold stepG; rw [if_pos (by assumption)]) q9
      · have hcol : ¬colS (ws.getD j Str.empty) < 1 := by assumption
        have hK := (hwo j q1).key hcol
        have hbr : (ws.getD ((j : Int)).toNat Str.empty != Str.ofString "}") = true := by assumption
        have hjl : j < ws.length := Int.ofNat_lt.mp (by assumption)
        have N3 := news_sub (by assumption) (mem_toR (w := w) (a := ⟨as, ad, a1, a2, a3, a4, k1, k2, k3, k4⟩) (q := (D, o)) (ks := ks) (sy := sy2))
        refine' Spec.useO (R := (D, o) :: ks) q4 (read_constant_spec _ _ _ _ ⟨as, ad, a1, a2, a3, a4, k1, k2, k3, k4⟩ st2 (c + j) sy2 _ _ hK.long hK.pos hK.quote) (fun _ _ _ z => ConPost.toO z) ?k1 ?k2 ?k3 N3 ?k5 ?kK ?kd ?ku ?kc ?ko ?_ ?_
        case k1 => k_asm
        case k2 => k_asm
        case k3 => k_asm
        case k5 => k_asm
        case kK => first | exact rfl | assumption
        case kd => ktr_room
        case ku => ktr_units
        case kc => walk_at "mine om"
        case ko => exact List.forall_mem_cons.mpr ⟨List.forall_mem_cons.mpr ⟨Nat.ne_of_lt l1.1, List.forall_mem_cons.mpr ⟨Nat.ne_of_lt l1.2.1, q8⟩⟩, q6⟩
        · intro v9 h9 tk9 own9 st9 sy9 qq P9 F9 N9 O9 D9 S9
          refine let_goal ?_
          intro gl_P
          obtain ⟨p9, t9, u9, d9, j9, i9, r9, e9, eo9, x9⟩ := qq
          dsimp only [gl_P]
          clear gl_P
          subst e9
          subst eo9
          have N10 := news_sub N9 mem_back
          clear N9 N3
          dsimp only [symI, symJ] at N10
          (try k_fold)
          k_sweep
          k_steps
          rename News _ _ _ _ => N10
          have hsO : ∀ q ∈ (as, instObj 155 ad) :: (ad, dictOf (symE w a1 a2 a3 a4 k1 k2 k3 k4) 4) :: (((p9, keyObj j9 i9 t9 u9) :: ks) ++ sy9), q.1 ≠ D := List.forall_mem_cons.mpr ⟨Nat.ne_of_lt l1.1, List.forall_mem_cons.mpr ⟨Nat.ne_of_lt l1.2.1, fun q hq => (List.mem_append.mp hq).elim (fun h => (List.mem_cons.mp h).elim (fun h => h ▸ D9 _ (.head _) _ (.head _)) (fun h => q7 _ h)) (fun h => O9 _ h _ (.head _))⟩⟩
          unfold Hold
          refine' in_tabT (TabT.le (ConR.le x9) q3) N10 (.head _) (fun q hq => mem_ksk (w := w) (a := ⟨as, ad, a1, a2, a3, a4, k1, k2, k3, k4⟩) hq) (mem_new (w := w) (a := ⟨as, ad, a1, a2, a3, a4, k1, k2, k3, k4⟩)) (SyP.nodT P9) (ConR.is x9) low (by ktr_units) ?_
          k_steps
          · -- the key stands there
            walk_at "mine thrown"
            intro Bh hB _
            refine SyExc.newN (sy' := sy9) (by assumption) (by assumption) mem_symks hB ?_ (SymSt.le_trans q5 (ConR.le x9)) P9 (by walk_at "mine om")
            exact go_none hjl hbr (step_dup hcol r9 (by assumption)) q9
          · rename News _ _ _ _ => N11
            have hlz : l.length ≤ 10000 := Nat.le_trans q10 (Nat.le_trans (Nat.le_of_lt hjl) (Nat.le_trans hz (by decide)))
            unfold Hold
            refine' set_tabT (TabT.le (ConR.le x9) q3) (by assumption) N11 hsO (fun q hq => .tail _ (.tail _ (List.mem_append.mpr (.inl (.tail _ hq))))) (.tail _ (.tail _ (.head _))) (SyP.nodT P9) (ConR.is x9) (by assumption) hlz (by ktr_units) (fun h8 o8 F8 N8 T8 => ?_)
            k_steps
            unfold Hold
            obtain ⟨nv, hnv, T7⟩ : ∃ nv, cntS (valW (ws.getD j Str.empty)) = some nv ∧ TabT w st9 o8 (l ++ [(d9, nv)]) ((p9, keyObj j9 i9 t9 u9) :: ks) := ⟨_, by assumption, T8⟩
            refine ih ⟨j + 1, _, l ++ [(d9, nv)], (p9, keyObj j9 i9 t9 u9) :: ks, o8, st9, sy9⟩ _ _ _ (by dsimp only; walk_at "mine om") (by assumption) (by assumption) ?_ (List.forall_mem_cons.mpr ⟨by rfl, fun _ h => nomatch h⟩) (by walk_at "mine sameW")
            (try dsimp only)
            refine ⟨by walk_at "mine om", by walk_at "mine om", T7, P9.more (by walk_at "mine om"), SymSt.le_trans q5 (ConR.le x9), List.forall_mem_cons.mpr ⟨S9 _ (.head _), fun x hx p hp => ?_⟩, List.forall_mem_cons.mpr ⟨D9 _ (.head _) _ (.head _), q7⟩, fun p hp => O9 p hp _ (.head _), by rw [List.length_append]; simp only [List.length_cons, List.length_nil]; walk_at "mine om", go_next hjl hbr (step_ok hcol r9 (by assumption) hnv) q9⟩
            rcases List.mem_cons.mp hp with h | hp
            · exact h ▸ q6 x hx _ (.head _)
            · rcases List.mem_cons.mp hp with h | hp
              · exact h ▸ q6 x hx _ (.tail _ (.head _))
              · exact O9 p hp _ (.tail _ (List.mem_map.mpr ⟨x, hx, rfl⟩))
          · unfold Hold
            refine' thrown_up (s := ⟨hh, gn, dr, 0, os⟩) rfl ?k2 ?k3 ?k4 ?k5 ?k6 ?_ ?k9
            case k6 => assumption
            case k2 => assumption
            case k3 => assumption
            case k4 => assumption
            case k5 => exact List.forall_mem_nil _
            case k9 => intro h'; exact hthr _ _ _
            intro Bh hB hX
            refine SyExc.upN (sy' := sy9) (by assumption) (by assumption) (by assumption) mem_symks hB ?_ (SymSt.le_trans q5 (ConR.le x9)) P9 (by walk_at "mine om")
            exact go_none hjl hbr (step_val hcol r9 (by assumption) hX) q9
        · intro e9 h9 tk9 T9
          k_steps
          unfold Hold
          refine' thrown_up (s := ⟨hh, gn, dr, 0, os⟩) rfl ?k2 ?k3 ?k4 ?k5 T9 ?_ ?k9
          case k2 => assumption
          case k3 => assumption
          case k4 => assumption
          case k5 => exact fun p hp => List.mem_append.mpr (.inr hp)
          case k9 => intro h'; exact hthr _ _ _
          intro Bh hB hX
          refine SyExc.upS (by assumption) (by assumption) N3 (fun p hp => List.mem_append.mpr (.inr hp)) hX (fun q => ?_) q5 (c' := c + j + 1) (by walk_at "mine om")
          exact go_none hjl hbr (step_key hcol q) q9
      · exfalso; walk_at "mine om"
      · refine hret _ _ _ (keeps_of (h := hh) (by assumption) (by assumption)) ?_
        rename _ ∧ _ ∧ _ ∧ AllLt _ _ => l2
        refine SyPostO.mk ((_, pairObj D _ _) :: (D, o) :: ks) (by assumption) (news_sub (by assumption) mem_ownks) q4 (by walk_at "mine om") ?_ ?_
        rotate_left
        · exact List.forall_mem_cons.mpr ⟨List.forall_mem_cons.mpr ⟨Nat.ne_of_lt l2.2.1, List.forall_mem_cons.mpr ⟨Nat.ne_of_lt l2.2.2.1, fun p hp => AllLt.off l2.2.2.2 p (List.mem_append.mpr (.inr hp))⟩⟩, List.forall_mem_cons.mpr ⟨List.forall_mem_cons.mpr ⟨Nat.ne_of_lt l1.1, List.forall_mem_cons.mpr ⟨Nat.ne_of_lt l1.2.1, q8⟩⟩, q6⟩⟩
        exact ⟨_, D, o, l, ks, j + 1, _, go_end (by walk_at "mine om") (by assumption) q9, rfl, rfl, low, q3, q5⟩
      · walk_at "mine thrown"
        intro Bh hB _
        refine SyExc.newN (sy' := sy2) (by assumption) (by assumption) mem_symks hB ?_ q5 q4 (by walk_at "mine om")
        exact go_over (by assumption) q9
      · exfalso; walk_at "mine om"
end
section
theorem words_J30 : True := by
  k_with "J30 mine om" => with_reducible first | exact rt_g (by assumption) | exact rt_f (by assumption) (by assumption) | exact rtu_a (by assumption) | exact rtu_b (by assumption) | exact rtu_c (by assumption) | exact rtu_d (by assumption) (by assumption) | exact Nat.le_of_eq om_mus | assumption
  k_with "J30 compareOp In int ref" => refine Hold.in ?_
  k_with "J30 setItem ref int" => refine Hold.in ?_
  trivial
local macro_rules | `(tactic| walk_at $s) => fwd "J30 " s
theorem off_RT2 : True := by
  w_top off
  trivial
local macro_rules | `(tactic| walk_at $s) => Lean.Macro.throwUnsupported
theorem read_table_U (w mean mg mb) (a : SymA) (st : SymSt) (c : Nat) (sy : List (Addr × Obj)) (wl : Addr) (vs : Array Value) (ws : List Str) (i : Nat) (t u : Tok) (hi : i < ws.length) (hz : ws.length ≤ 200) (hq : wl ∉ (symR w a sy).map (·.1)) (hwo : ∀ j, i < j → EntryOk (ws.getD j Str.empty)) :
    Spec w mean mg mb 369 [.ref a.s, .ref wl, .int (i : Int) t, .str (Str.ofString "U") u] (symR w a sy) 14 300 (fun h => SyP w a st c sy ∧ c + 2 * ws.length < 10000 ∧ h.IsList wl vs ∧ StrsAre vs.toList ws)
      (SyPostO w a (c + 2 * ws.length) sy (RtU w st (tabS funS ws i))) (SyExc w a st (c + 2 * ws.length) sy (tabS funS ws i = none)) := by
  obtain ⟨as, ad, a1, a2, a3, a4, k1, k2, k3, k4⟩ := a
  refine Spec.of ?_
  intro dp un gd cn cs a ccd cl outer A₀ base h₀ L m hh gn dr tk os Q E B F X N T hk hd hu hpre hret hthr
  have hB : Bind [(Str.ofString "symbols", Value.ref as), (Str.ofString "words", Value.ref wl), (Str.ofString "place", Value.int (i : Int) t), (Str.ofString "kind", Value.str (Str.ofString "U") u)] := .is
  refine let_goal ?_
  intro gl_P
  obtain ⟨P, hc, hl0, hS⟩ := hpre
  dsimp only [gl_P]
  clear gl_P
  dsimp only [symR, symI, symJ] at *
  walk_at "mine enter"
  have hl : Heap.IsList _ wl vs := let ⟨o, ho, r⟩ := hl0; ⟨o, (‹Keeps hh _ _› : Keeps hh _ _) _ _ ho hq, r⟩
  have hsz : vs.toList.length = ws.length := hS.length
  k_steps
  · walk_at "mine thrown"
    intro Bh hB _
    refine SyExc.newN (by assumption) (by assumption) (fun _ hp => hp) hB ?_ st.le_refl P (by walk_at "mine om")
    unfold tabS; rw [if_pos (by assumption)]
  · have hb : (ws.getD (i : Int).toNat Str.empty != Str.ofString "{") = false := by assumption
    unfold Hold
    refine whl_start 1 ?_
    rename Fr _ _ _ _ => lF'
    rename News _ _ _ _ => lN'
    rename _ ∧ _ ∧ AllLt _ _ => l1
    rename (_ == sysModules) = false => low
    rename Obj.IsDictOf (intKind PG w) _ [] => hiD
    rename Obj => oD
    obtain ⟨D, hD0, _⟩ : ∃ x : Addr, x = _ ∧ News _ _ _ ((x, oD) :: _) := ⟨_, rfl, lN'⟩
    subst hD0
    refine' loop_wh (σ := RtS (Str × Int)) (fun c => ws.length - c.j) (fun c => (D, c.o) :: (as, instObj 155 ad) :: (ad, dictOf (symE w a1 a2 a3 a4 k1 k2 k3 k4) 4) :: c.sy) (fun c => [(Str.ofString "place", .int (c.j : Int) c.tj)]) [Str.ofString "word", Str.ofString "cut", Str.ofString "key"]
      (fun q => i < q.j ∧ q.j ≤ ws.length ∧ TabU w q.st q.o q.l ∧ SyP w ⟨as, ad, a1, a2, a3, a4, k1, k2, k3, k4⟩ q.st (c + 2 * q.j) q.sy ∧ st.le q.st ∧ (∀ x ∈ q.sy, x.1 ≠ D) ∧ q.l.length ≤ q.j ∧
        (goG funS q.l (ws.drop q.j)).map (fun p => (p.1, p.2 + q.j + 1)) = tabS funS ws i)
      ⟨i + 1, _, [], [], oD, st, sy⟩ lF' lN' ?hps ?hinv ?turn
    case hps => exact List.forall_mem_cons.mpr ⟨by rfl, fun _ h => nomatch h⟩
    case hinv =>
      (try dsimp only)
      refine ⟨by walk_at "mine om", by walk_at "mine om", tabU_nil hiD, P.more (by walk_at "mine om"), st.le_refl, AllLt.off l1.2.2, by simp, ?_⟩
      unfold tabS; rw [if_neg (by rw [show ws.getD i Str.empty = ws.getD (i : Int).toNat Str.empty from rfl, hb]; decide)]
    case turn =>
      rintro ⟨j, tj, l, ks, o, st2, sy2⟩ uu h2 tk2 hI0 ih F2 N2
      with_reducible refine and8 hI0 fun q1 q2 q3 q4 q5 q8 q10 q9 => ?_
      clear hI0
      (try dsimp only at *)
      clear lF' lN'
      have hw : (ws.getD ((j : Int)).toNat Str.empty).length ≤ 18 := (hwo j q1).long
      refine whl_turn (by first | passes_own | with_unfolding_all passes_own) ?_
      k_steps
      · -- no colon
        walk_at "mine thrown"
        intro Bh hB _
        refine SyExc.newN (sy' := sy2) (by assumption) (by assumption) (mem_symks (ks := [])) hB ?_ q5 q4 (by walk_at "mine om")
        exact go_none (by walk_at "mine om") (by assumption) (by unfold stepG; rw [if_pos (by assumption)]) q9
      · have hcol : ¬colS (ws.getD j Str.empty) < 1 := by assumption
        have hK := (hwo j q1).key hcol
        have hbr : (ws.getD ((j : Int)).toNat Str.empty != Str.ofString "}") = true := by assumption
        have hjl : j < ws.length := Int.ofNat_lt.mp (by assumption)
        have N3 := news_sub (by assumption) (mem_toR (w := w) (a := ⟨as, ad, a1, a2, a3, a4, k1, k2, k3, k4⟩) (q := (D, o)) (ks := []) (sy := sy2))
        refine' Spec.useO (R := [(D, o)]) q4 (read_functor_spec _ _ _ _ ⟨as, ad, a1, a2, a3, a4, k1, k2, k3, k4⟩ st2 (c + 2 * j) sy2 _ _ hK.long hK.slash) (fun _ _ _ z => SyPost.toO z) ?k1 ?k2 ?k3 N3 ?k5 ?kK ?kd ?ku ?kc ?ko ?_ ?_
        case k1 => k_asm
        case k2 => k_asm
        case k3 => k_asm
        case k5 => k_asm
        case kK => first | exact rfl | assumption
        case kd => ktr_room
        case ku => ktr_units
        case kc => walk_at "mine om"
        case ko => exact List.forall_mem_cons.mpr ⟨List.forall_mem_cons.mpr ⟨Nat.ne_of_lt l1.1, List.forall_mem_cons.mpr ⟨Nat.ne_of_lt l1.2.1, q8⟩⟩, fun _ h => nomatch h⟩
        · intro v9 h9 tk9 own9 st9 sy9 qq P9 F9 N9 O9 D9 S9
          refine let_goal ?_
          intro gl_P
          obtain ⟨eo9, y9, j9, r9, i9, n9, t9, e9, a9, b9, g9⟩ := qq
          dsimp only [gl_P]
          clear gl_P
          subst e9
          subst eo9
          have f9 : FunIs st9 (y9, j9) (i9 : Int) := .mk a9 b9
          have N10 := news_sub N9 (mem_back0 (w := w) (a := ⟨as, ad, a1, a2, a3, a4, k1, k2, k3, k4⟩) (q := (D, o)) (ks := []) (sy := sy9))
          clear N9 N3
          dsimp only [symI, symJ, List.nil_append] at N10
          (try k_fold)
          k_sweep
          k_steps
          rename News _ _ _ _ => N10
          have hsO : ∀ q ∈ (as, instObj 155 ad) :: (ad, dictOf (symE w a1 a2 a3 a4 k1 k2 k3 k4) 4) :: sy9, q.1 ≠ D := List.forall_mem_cons.mpr ⟨Nat.ne_of_lt l1.1, List.forall_mem_cons.mpr ⟨Nat.ne_of_lt l1.2.1, fun q h => O9 _ h _ (.head _)⟩⟩
          unfold Hold
          refine' in_tabU (TabU.le g9 q3) N10 (.head _) (SyP.nodT P9) (SyP.nodF P9) f9 low ?_
          k_steps
          · -- the key stands there
            walk_at "mine thrown"
            intro Bh hB _
            refine SyExc.newN (sy' := sy9) (by assumption) (by assumption) (mem_symks (ks := [])) hB ?_ (SymSt.le_trans q5 g9) P9 (by walk_at "mine om")
            exact go_none hjl hbr (step_dup hcol r9 (by assumption)) q9
          · rename News _ _ _ _ => N11
            have hlz : l.length ≤ 10000 := Nat.le_trans q10 (Nat.le_trans (Nat.le_of_lt hjl) (Nat.le_trans hz (by decide)))
            unfold Hold
            refine' set_tabU (TabU.le g9 q3) (by assumption) N11 hsO (SyP.nodT P9) (SyP.nodF P9) f9 (by assumption) hlz (fun h8 o8 F8 N8 T8 => ?_)
            k_steps
            unfold Hold
            obtain ⟨nv, hnv, T7⟩ : ∃ nv, cntS (valW (ws.getD j Str.empty)) = some nv ∧ TabU w st9 o8 (l ++ [((y9, j9), nv)]) := ⟨_, by assumption, T8⟩
            refine ih ⟨j + 1, _, l ++ [((y9, j9), nv)], [], o8, st9, sy9⟩ _ _ _ (by dsimp only; walk_at "mine om") (by assumption) (by assumption) ?_ (List.forall_mem_cons.mpr ⟨by rfl, fun _ h => nomatch h⟩) (by walk_at "mine sameW")
            (try dsimp only)
            refine ⟨by walk_at "mine om", by walk_at "mine om", T7, P9.more (by walk_at "mine om"), SymSt.le_trans q5 g9, fun p hp => O9 p hp _ (.head _), by rw [List.length_append]; simp only [List.length_cons, List.length_nil]; walk_at "mine om", go_next hjl hbr (step_ok hcol r9 (by assumption) hnv) q9⟩
          · unfold Hold
            refine' thrown_up (s := ⟨hh, gn, dr, 0, os⟩) rfl ?k2 ?k3 ?k4 ?k5 ?k6 ?_ ?k9
            case k6 => assumption
            case k2 => assumption
            case k3 => assumption
            case k4 => assumption
            case k5 => exact List.forall_mem_nil _
            case k9 => intro h'; exact hthr _ _ _
            intro Bh hB hX
            refine SyExc.upN (sy' := sy9) (by assumption) (by assumption) (by assumption) (mem_symks (ks := [])) hB ?_ (SymSt.le_trans q5 g9) P9 (by walk_at "mine om")
            exact go_none hjl hbr (step_val hcol r9 (by assumption) hX) q9
        · intro e9 h9 tk9 T9
          k_steps
          unfold Hold
          refine' thrown_up (s := ⟨hh, gn, dr, 0, os⟩) rfl ?k2 ?k3 ?k4 ?k5 T9 ?_ ?k9
          case k2 => assumption
          case k3 => assumption
          case k4 => assumption
          case k5 => exact fun p hp => List.mem_append.mpr (.inr hp)
          case k9 => intro h'; exact hthr _ _ _
          intro Bh hB hX
          refine SyExc.upS (by assumption) (by assumption) N3 (fun p hp => List.mem_append.mpr (.inr hp)) hX (fun q => ?_) q5 (c' := c + 2 * j + 2) (by walk_at "mine om")
          exact go_none hjl hbr (step_key hcol q) q9
      · exfalso; walk_at "mine om"
      · refine hret _ _ _ (keeps_of (h := hh) (by assumption) (by assumption)) ?_
        rename _ ∧ _ ∧ _ ∧ AllLt _ _ => l2
        refine SyPostO.mk ((_, pairObj D _ _) :: [(D, o)]) (by assumption) (news_sub (by assumption) (mem_ownks (ks := []))) q4 (by walk_at "mine om") ?_ ?_
        rotate_left
        · exact List.forall_mem_cons.mpr ⟨List.forall_mem_cons.mpr ⟨Nat.ne_of_lt l2.2.1, List.forall_mem_cons.mpr ⟨Nat.ne_of_lt l2.2.2.1, fun p hp => AllLt.off l2.2.2.2 p hp⟩⟩, List.forall_mem_cons.mpr ⟨List.forall_mem_cons.mpr ⟨Nat.ne_of_lt l1.1, List.forall_mem_cons.mpr ⟨Nat.ne_of_lt l1.2.1, q8⟩⟩, fun _ h => nomatch h⟩⟩
        exact ⟨_, D, o, l, j + 1, _, go_end (by walk_at "mine om") (by assumption) q9, rfl, rfl, low, q3, q5⟩
      · walk_at "mine thrown"
        intro Bh hB _
        refine SyExc.newN (sy' := sy2) (by assumption) (by assumption) (mem_symks (ks := [])) hB ?_ q5 q4 (by walk_at "mine om")
        exact go_over (by assumption) q9
      · exfalso; walk_at "mine om"
theorem off_RI0 : True := by
  w_top off
  trivial
noncomputable abbrev kindL : List Nat := [82, 88, 89, 67, 70, 78, 76, 84, 85]
noncomputable def opS (c : Nat) (ws : List Str) (j : Nat) : Option (Opd × Nat) :=
  if c = 84 then (tabS conS ws j).map fun p => (.tabT p.1, p.2)
  else if c = 85 then (tabS funS ws j).map fun p => (.tabU p.1, p.2)
  else (readS ⟨#[c]⟩ (ws.getD j Str.empty)).map fun d => (d, j + 1)
noncomputable def opsS : List Nat → List Str → Nat → Option (List Opd × Nat)
  | [], _, j => some ([], j)
  | c :: cs, ws, j => if ws.length ≤ j then none else match opS c ws j with
    | none => none
    | some (d, j') => (opsS cs ws j').map fun p => (d :: p.1, p.2)
noncomputable def insS (cs : List Nat) (ws : List Str) : Option (List Opd) := match opsS cs ws 1 with
  | none => none
  | some (ds, j) => if j = ws.length ∧ okAll cs ds = true then some ds else none
noncomputable def insR (ko : Option Str) (ws : List Str) : Option (List Opd) := match ko with
  | none => none
  | some ks => insS ks.cps.toList ws
structure RiS where
  j : Nat
  tj : Tok
  ds : List Opd
  vals : List Value
  own : List (Addr × Obj)
  its : Array Value
  n : Nat
  st : SymSt
  sy : List (Addr × Obj)
theorem cnt_nonneg {x : Str} {n : Int} (h : cntS x = some n) : 0 ≤ n := by
  unfold cntS at h
  split at h
  · cases h; exact Int.natCast_nonneg _
  · cases h
theorem goG_facts {α : Type} [DecidableEq α] {key : Str → Option α} {ws : List Str} {l l' : List (α × Int)} {e : Nat} (hl : ∀ q ∈ l, 0 ≤ q.2) (h : goG key l ws = some (l', e)) : (∀ q ∈ l', 0 ≤ q.2) ∧ e < ws.length := by
  induction ws generalizing l l' e with
  | nil => cases h
  | cons x r ih =>
    unfold goG at h
    split at h
    · cases h; exact ⟨hl, by simp⟩
    · cases q : stepG key l x with
      | none => rw [q] at h; cases h
      | some l2 =>
        rw [q] at h
        dsimp only at h
        have hl2 : ∀ q ∈ l2, 0 ≤ q.2 := by
          unfold stepG at q
          split at q
          · cases q
          · split at q
            · cases q
            · split at q
              · cases q
              · split at q
                · cases q
                · rename_i v hv
                  cases q
                  intro y hy
                  rcases List.mem_append.mp hy with hy | hy
                  · exact hl y hy
                  · simp only [List.mem_singleton] at hy; subst hy; exact cnt_nonneg hv
        cases q2 : goG key l2 r with
        | none => rw [q2] at h; cases h
        | some p =>
          rw [q2] at h
          obtain ⟨a, b⟩ := p
          simp only [Option.map_some, Option.some.injEq, Prod.mk.injEq] at h
          obtain ⟨rfl, rfl⟩ := h
          obtain ⟨g1, g2⟩ := ih hl2 q2
          exact ⟨g1, by simp; walk_at "mine om"⟩
theorem tabS_facts {α : Type} [DecidableEq α] {key : Str → Option α} {ws : List Str} {i e : Nat} {l : List (α × Int)} (h : tabS key ws i = some (l, e)) : (∀ q ∈ l, 0 ≤ q.2) ∧ i < e ∧ e ≤ ws.length := by
  unfold tabS at h
  split at h
  · cases h
  · cases q : goG key [] (ws.drop (i + 1)) with
    | none => rw [q] at h; cases h
    | some p =>
      rw [q] at h
      obtain ⟨a, b⟩ := p
      simp only [Option.map_some, Option.some.injEq, Prod.mk.injEq] at h
      obtain ⟨rfl, rfl⟩ := h
      obtain ⟨g1, g2⟩ := goG_facts (List.forall_mem_nil _) q
      rw [List.length_drop] at g2
      exact ⟨g1, by walk_at "mine om", by walk_at "mine om"⟩
theorem readS_fits {c : Nat} {x : Str} {d : Opd} (hc : c ∈ [82, 88, 89, 67, 70, 78, 76]) (r : readS ⟨#[c]⟩ x = some d) : Fits ⟨#[c]⟩ d := by
  simp only [List.mem_cons, List.not_mem_nil, or_false] at hc
  rcases hc with rfl | rfl | rfl | rfl | rfl | rfl | rfl
  · have r' : (regS x).map (fun p => Opd.reg p.1 p.2) = some d := r
    cases q : regS x with
    | none => rw [q] at r'; cases r'
    | some p => rw [q] at r'; cases r'; exact .R _ _
  · have r' : (regS x).map (fun p => Opd.reg p.1 p.2) = some d := r
    cases q : regS x with
    | none => rw [q] at r'; cases r'
    | some p => rw [q] at r'; cases r'; exact .X _ _
  · have r' : (regS x).map (fun p => Opd.reg p.1 p.2) = some d := r
    cases q : regS x with
    | none => rw [q] at r'; cases r'
    | some p => rw [q] at r'; cases r'; exact .Y _ _
  · have r' : (conS x).map Opd.con = some d := r
    cases q : conS x with
    | none => rw [q] at r'; cases r'
    | some p => rw [q] at r'; cases r'; exact .C _
  · have r' : (funS x).map (fun p => Opd.fn p.1 p.2) = some d := r
    cases q : funS x with
    | none => rw [q] at r'; cases r'
    | some p => rw [q] at r'; cases r'; exact .F _ _
  · have r' : (cntS x).map Opd.num = some d := r
    cases q : cntS x with
    | none => rw [q] at r'; cases r'
    | some p => rw [q] at r'; cases r'; exact .N _ (cnt_nonneg q)
  · have r' : (cntS x).map Opd.num = some d := r
    cases q : cntS x with
    | none => rw [q] at r'; cases r'
    | some p => rw [q] at r'; cases r'; exact .L _ (cnt_nonneg q)
section
variable {cs : List Nat} {ws : List Str} {i j c : Nat} {ds : List Opd} {r : Option (List Opd × Nat)}
theorem drop_cons (h : cs[i]? = some c) : cs.drop i = c :: cs.drop (i + 1) := by
  obtain ⟨hi, e⟩ := List.getElem?_eq_some_iff.mp h
  rw [List.drop_eq_getElem_cons hi, e]
theorem ops_lack (h : cs[i]? = some c) (hj : ws.length ≤ j) (e : (opsS (cs.drop i) ws j).map (fun p => (ds ++ p.1, p.2)) = r) : r = none := by
  rw [drop_cons h, opsS, if_pos hj] at e; exact e.symm
theorem ops_none (h : cs[i]? = some c) (hj : ¬ws.length ≤ j) (hn : opS c ws j = none) (e : (opsS (cs.drop i) ws j).map (fun p => (ds ++ p.1, p.2)) = r) : r = none := by
  rw [drop_cons h, opsS, if_neg hj, hn] at e; exact e.symm
theorem ops_next {d : Opd} {j' : Nat} (h : cs[i]? = some c) (hj : ¬ws.length ≤ j) (hn : opS c ws j = some (d, j')) (e : (opsS (cs.drop i) ws j).map (fun p => (ds ++ p.1, p.2)) = r) :
    (opsS (cs.drop (i + 1)) ws j').map (fun p => ((ds ++ [d]) ++ p.1, p.2)) = r := by
  rw [drop_cons h, opsS, if_neg hj, hn] at e
  rw [← e, Option.map_map]
  congr 1; funext p; simp
theorem ops_end (h : i = cs.length) (e : (opsS (cs.drop i) ws j).map (fun p => (ds ++ p.1, p.2)) = r) : r = some (ds, j) := by
  subst h
  rw [List.drop_length, opsS] at e
  rw [← e]; simp
theorem ins_none (h : opsS cs ws 1 = none) : insS cs ws = none := by unfold insS; rw [h]
theorem ins_over (h : opsS cs ws 1 = some (ds, j)) (hj : j ≠ ws.length) : insS cs ws = none := by unfold insS; rw [h]; simp [hj]
theorem ins_bad (h : opsS cs ws 1 = some (ds, j)) (hk : okAll cs ds = false) : insS cs ws = none := by unfold insS; rw [h]; simp [hk]
theorem ins_ok (h : opsS cs ws 1 = some (ds, j)) (hj : j = ws.length) (hk : okAll cs ds = true) : insS cs ws = some ds := by unfold insS; rw [h]; simp [hj, hk]
theorem opS_T (r : tabS conS ws j = none) : opS 84 ws j = none := by unfold opS; rw [if_pos rfl, r]; rfl
theorem opS_T' {l : List ((Int ⊕ Str) × Int)} {e : Nat} (r : tabS conS ws j = some (l, e)) : opS 84 ws j = some (.tabT l, e) := by unfold opS; rw [if_pos rfl, r]; rfl
theorem opS_U (r : tabS funS ws j = none) : opS 85 ws j = none := by unfold opS; rw [if_neg (by decide), if_pos rfl, r]; rfl
theorem opS_U' {l : List ((Str × Int) × Int)} {e : Nat} (r : tabS funS ws j = some (l, e)) : opS 85 ws j = some (.tabU l, e) := by unfold opS; rw [if_neg (by decide), if_pos rfl, r]; rfl
theorem opS_O (h1 : c ≠ 84) (h2 : c ≠ 85) (r : readS ⟨#[c]⟩ (ws.getD j Str.empty) = none) : opS c ws j = none := by unfold opS; rw [if_neg h1, if_neg h2, r]; rfl
theorem opS_O' {d : Opd} (h1 : c ≠ 84) (h2 : c ≠ 85) (r : readS ⟨#[c]⟩ (ws.getD j Str.empty) = some d) : opS c ws j = some (d, j + 1) := by unfold opS; rw [if_neg h1, if_neg h2, r]; rfl
end
theorem turn_offs {w : World} {a : SymA} {P : Addr} {o : Obj} {own own9 it sy sy9 : List (Addr × Obj)} (hA : OwnOff it (((P, o) :: symI a :: symJ w a :: (own ++ sy)).map (·.1))) (D9 : OffR ((P, o) :: (own ++ it)) own9) (O9 : OwnOff sy9 (((P, o) :: (own ++ it)).map (·.1))) (q6 : ∀ x ∈ own, ∀ p ∈ symR w a sy, p.1 ≠ x.1) (q7 : ∀ x ∈ own, x.1 ≠ P) (S9 : ∀ q ∈ own9, ∀ p ∈ symR w a sy9, p.1 ≠ q.1) :
    (∀ x ∈ own9 ++ own, ∀ p ∈ symR w a sy9, p.1 ≠ x.1) ∧ (∀ x ∈ own9 ++ own, x.1 ≠ P) ∧ (∀ x ∈ sy9, x.1 ≠ P) ∧ OwnOff it (P :: (a.s :: a.d :: ((own9 ++ own) ++ sy9).map (·.1))) := by
  have oin : ∀ x ∈ own, x.1 ∈ (((P, o) :: (own ++ it)).map (·.1)) := fun x hx => .tail _ (List.mem_map.mpr ⟨x, List.mem_append.mpr (.inl hx), rfl⟩)
  have iin : ∀ x ∈ it, x.1 ∈ (((P, o) :: (own ++ it)).map (·.1)) := fun x hx => .tail _ (List.mem_map.mpr ⟨x, List.mem_append.mpr (.inr hx), rfl⟩)
  refine ⟨fun x hx p hp => ?_, fun x hx => ?_, fun x hx => O9 x hx _ (.head _), fun x hx b hb => ?_⟩
  · rcases List.mem_append.mp hx with hx | hx
    · exact S9 x hx p hp
    · simp only [symR, List.mem_cons] at hp
      rcases hp with h | h | h
      · exact h ▸ q6 x hx _ (.head _)
      · exact h ▸ q6 x hx _ (.tail _ (.head _))
      · exact O9 p h _ (oin x hx)
  · rcases List.mem_append.mp hx with hx | hx
    · exact D9 _ (.head _) x hx
    · exact q7 x hx
  · have hA' : ∀ y ∈ ((P, o) :: symI a :: symJ w a :: (own ++ sy)), x.1 ≠ y.1 := fun y hy => hA x hx _ (List.mem_map.mpr ⟨y, hy, rfl⟩)
    rcases List.mem_cons.mp hb with rfl | hb
    · exact hA' _ (.head _)
    · rcases List.mem_cons.mp hb with rfl | hb
      · exact hA' _ (.tail _ (.head _))
      · rcases List.mem_cons.mp hb with rfl | hb
        · exact hA' _ (.tail _ (.tail _ (.head _)))
        · obtain ⟨y, hy, rfl⟩ := List.mem_map.mp hb
          rcases List.mem_append.mp hy with hy | hy
          · rcases List.mem_append.mp hy with hy | hy
            · exact fun e => D9 x (.tail _ (List.mem_append.mpr (.inr hx))) y hy e.symm
            · exact hA' y (.tail _ (.tail _ (.tail _ (List.mem_append.mpr (.inl hy)))))
          · exact fun e => O9 y hy x.1 (iin x hx) e.symm
noncomputable abbrev InsV (w : World) (ks : List Nat) (nm : Str) (r : Option (List Opd)) (st : SymSt) (v : Value) (own : List (Addr × Obj)) (st' : SymSt) : Prop :=
  ∃ p ds vals own' t, r = some ds ∧ v = .ref p ∧ own = (p, ({ cls := .type "tuple", data := .seq (Value.str nm t :: vals).toArray } : Obj)) :: own' ∧ OpsV w st' ks ds vals own' ∧ st.le st'
section
variable {w : World} {mean : ExcName → Option Value} {mg mb : Str → Option Value} {f : Addr} {vs : List Value} {dn un' : Nat}
  {dp un : Nat} {gd : Option (List Code)} {cn : Str} {cs : Scope} {ca : Addr} {ccd : Value} {cl : List (Str × Addr)} {outer : List Env} {A₀ : Around} {base h₀ : Heap} {L : Addr} {m : Str → Option Value} {Q E : Value → Shared → Prop} {news : List (Addr × Obj)}
theorem Spec.useC {b : Bool} {h : Heap} {gn : Array GenState} {dr : Drawn} {tk : Nat} {os : OsState} {pre : Heap → Prop} (S : Spec w mean mg mb f vs [] dn un' pre (fun _ _ v => v = .none ∧ b = true) (fun _ _ => b = false)) (B : Below A₀ base outer h₀) (F : Fr h₀ L h m) (X : (Mine.hd.heap_1 w.params).In h₀) (N : News h₀ L h news) (T : Top PV LO mean mg mb h₀) (hk : cs.kind = .function)
    (hd : dp + dn < recursionLimit) (hu : un + un' < cLine) (hp : pre h)
    (ret : ∀ h' tk', b = true → Keeps h h' [] → Fr h₀ L h' m → News h₀ L h' news → Q .none ⟨h', gn, dr, tk', os⟩)
    (thr : ∀ e h' tk', Thrown base (envX cn cs L ca ccd cl :: outer) h (([] : List (Addr × Obj)).map (·.1)) (fun _ _ => b = false) e h' → E (.ref e) ⟨h', gn, dr, tk', os⟩) :
    wpAny (model PG w) (ktrTop dp un gd cn cs L ca ccd cl outer) (call (.ref f) vs) Q E ⟨h, gn, dr, tk, os⟩ :=
  S.useE B F X N T hk hd hu hp (fun v h' tk' k F' N' ⟨e, hb⟩ => e ▸ ret h' tk' hb k F' N') thr
end
theorem forms_keeps {tb : Addr} {D : List (PyData × PyData)} {w : World} {h h' : Heap} {as : List Addr} (k : Keeps h h' as) (x : FormsAt tb D w h) (hn : tb ∉ as) : FormsAt tb D w h' := by
  obtain ⟨lo, kvs, hd, hf⟩ := x
  obtain ⟨o, ho, r⟩ := Heap.dictOf_iff.mp hd
  exact ⟨lo, kvs, Heap.dictOf_iff.mpr ⟨o, k _ _ ho hn, r⟩, hf⟩
theorem notin_known {w : World} {A : Around} {E : Value → Shared → Prop} {s : Shared} {t : Addr} {Q : Value → Shared → Prop} {D : List (PyData × PyData)} {nm ks : Str} {u : Tok} (T : FormsAt t D w s.heap) (hl : PySem.Spec.lookup (.str nm) D = some (.str ks)) (h : Q (.bool false) { s with toks := s.toks + 1 }) : wpAny (model PG w) A (compareOp .NotIn (.str nm u) (.ref t)) Q E s :=
  notin_forms T (by rw [hl]; exact h)
theorem off_frozen {g h : Heap} {L b : Addr} {o : Obj} {news mu : List (Addr × Obj)} (N : News g L h news) (hm : ∀ p ∈ mu, p ∈ news) (ho : g.get? b = some o) : b ∉ mu.map (·.1) := fun hb => by
  obtain ⟨p, hp, e⟩ := List.mem_map.mp hb
  have := (N p (hm p hp)).2.2
  rw [e, ho] at this; cases this
theorem mem_turn {w : World} {a : SymA} {P : Addr × Obj} {own sy it : List (Addr × Obj)} : ∀ p ∈ (P :: (own ++ it)) ++ symR w a sy, p ∈ (P :: symI a :: symJ w a :: (own ++ sy)) ++ it := Sub.out (by walk_at "mine sub")
theorem mem_turnT {w : World} {a : SymA} {P x : Addr × Obj} {own own9 sy it : List (Addr × Obj)} : ∀ p ∈ P :: x :: symI a :: symJ w a :: (((own9 ++ own) ++ sy) ++ it), p ∈ (P :: (own ++ it)) ++ ((x :: own9) ++ symR w a sy) := Sub.out (by walk_at "mine sub")
theorem mem_turnO {w : World} {a : SymA} {P : Addr × Obj} {own own9 sy it : List (Addr × Obj)} : ∀ p ∈ P :: symI a :: symJ w a :: (((own9 ++ own) ++ sy) ++ it), p ∈ (P :: (own ++ it)) ++ (own9 ++ symR w a sy) := Sub.out (by walk_at "mine sub")
theorem take_succ_of {cs : List Nat} {i c : Nat} (h : cs[i]? = some c) : cs.take (i + 1) = cs.take i ++ [c] := by
  rw [List.take_add_one, h]; rfl
theorem append_head {w : World} {A : Around} {E : Value → Shared → Prop} {s : Shared} {h₀ : Heap} {L D : Addr} {m : Str → Option Value} {its : Array Value} {n : Nat} {v : Value} {rest : List (Addr × Obj)} {Q : Value → Shared → Prop}
    (F : Fr h₀ L s.heap m) (N : News h₀ L s.heap ((D, W.listOf its n) :: rest)) (hap : ∀ p ∈ rest, p.1 ≠ D) (hsz : its.size ≤ 16384)
    (h : ∀ h', Fr h₀ L h' m → News h₀ L h' ((D, W.listOf (its.push v) (n + 1)) :: rest) → Q .none { s with heap := h' }) : wpAny (model PG w) A (call (.builtin "list.append") [.ref D, v]) Q E s :=
  append_at (hsz := by rw [sizeLine_eq]; walk_at "mine om") (N.get (.head _)) fun h' hs ho' => h h' (F.change hs (N _ (.head _)).2.1 (N _ (.head _)).2.2) (N.setHead hap hs ho')
theorem mem_nextT {P x s1 s2 : Addr × Obj} {l it : List (Addr × Obj)} : ∀ p ∈ (P :: s1 :: s2 :: l) ++ it, p ∈ P :: x :: s1 :: s2 :: (l ++ it) := Sub.out (by walk_at "mine sub")
theorem code_ne {k n : Nat} (h : k ≠ n) : ((⟨#[k]⟩ : Str) == ⟨#[n]⟩) = false := by
  rw [beq_eq_false_iff_ne]
  intro e
  simp only [Str.mk.injEq, Array.mk.injEq, List.cons.injEq, and_true] at e
  exact h e
theorem mem_fin {w : World} {a : SymA} {T P : Addr × Obj} {own sy : List (Addr × Obj)} : ∀ p ∈ (T :: own) ++ symR w a sy, p ∈ T :: P :: symI a :: symJ w a :: (own ++ sy) := Sub.out (by walk_at "mine sub")
theorem mem_symT {w : World} {a : SymA} {T P : Addr × Obj} {own sy : List (Addr × Obj)} : ∀ p ∈ symR w a sy, p ∈ T :: P :: symI a :: symJ w a :: (own ++ sy) := fun p hp => mem_fin p (List.mem_append.mpr (.inr hp))
section
variable {c i n k s : Nat}
theorem ri_w (e : (i + 1) * (2 * n + 2) = i * (2 * n + 2) + (2 * n + 2)) : c + i * (2 * n + 2) + n ≤ c + (i + 1) * (2 * n + 2) := by
  rw [e, Nat.add_assoc]; exact Nat.add_le_add_left (Nat.add_le_add_left (Nat.le_trans (Nat.le_mul_of_pos_left n (by decide)) (Nat.le_add_right _ _)) _) c
theorem ri_w2 (e : (i + 1) * (2 * n + 2) = i * (2 * n + 2) + (2 * n + 2)) : c + i * (2 * n + 2) + 2 * n ≤ c + (i + 1) * (2 * n + 2) := by
  rw [e, Nat.add_assoc]; exact Nat.add_le_add_left (Nat.add_le_add_left (Nat.le_add_right _ _) _) c
theorem ri_w3 (e : (i + 1) * (2 * n + 2) = i * (2 * n + 2) + (2 * n + 2)) : c + i * (2 * n + 2) + 2 ≤ c + (i + 1) * (2 * n + 2) := by
  rw [e, Nat.add_assoc]; exact Nat.add_le_add_left (Nat.add_le_add_left (Nat.le_add_left _ _) _) c
theorem ri_t (e : (i + 1) * (2 * n + 2) = i * (2 * n + 2) + (2 * n + 2)) (h : (i + 1) * (2 * n + 2) ≤ 10 * (2 * n + 2)) : c + i * (2 * n + 2) ≤ c + 10 * (2 * n + 2) :=
  Nat.add_le_add_left (Nat.le_trans (e ▸ Nat.le_add_right _ _) h) c
theorem ri_t1 (e : (i + 1) * (2 * n + 2) = i * (2 * n + 2) + (2 * n + 2)) (h : (i + 1) * (2 * n + 2) ≤ 10 * (2 * n + 2)) : c + i * (2 * n + 2) + n ≤ c + 10 * (2 * n + 2) := Nat.le_trans (ri_w e) (Nat.add_le_add_left h c)
theorem ri_t2 (e : (i + 1) * (2 * n + 2) = i * (2 * n + 2) + (2 * n + 2)) (h : (i + 1) * (2 * n + 2) ≤ 10 * (2 * n + 2)) : c + i * (2 * n + 2) + 2 * n ≤ c + 10 * (2 * n + 2) := Nat.le_trans (ri_w2 e) (Nat.add_le_add_left h c)
theorem ri_t3 (e : (i + 1) * (2 * n + 2) = i * (2 * n + 2) + (2 * n + 2)) (h : (i + 1) * (2 * n + 2) ≤ 10 * (2 * n + 2)) : c + i * (2 * n + 2) + 2 ≤ c + 10 * (2 * n + 2) := Nat.le_trans (ri_w3 e) (Nat.add_le_add_left h c)
theorem ri_l (e : (i + 1) * (2 * n + 2) = i * (2 * n + 2) + (2 * n + 2)) (h : (i + 1) * (2 * n + 2) ≤ 10 * (2 * n + 2)) (hc : c + 10 * (2 * n + 2) < 10000) : c + i * (2 * n + 2) + n < 10000 := Nat.lt_of_le_of_lt (ri_t1 e h) hc
theorem ri_l2 (e : (i + 1) * (2 * n + 2) = i * (2 * n + 2) + (2 * n + 2)) (h : (i + 1) * (2 * n + 2) ≤ 10 * (2 * n + 2)) (hc : c + 10 * (2 * n + 2) < 10000) : c + i * (2 * n + 2) + 2 * n < 10000 := Nat.lt_of_le_of_lt (ri_t2 e h) hc
theorem ri_l3 (e : (i + 1) * (2 * n + 2) = i * (2 * n + 2) + (2 * n + 2)) (h : (i + 1) * (2 * n + 2) ≤ 10 * (2 * n + 2)) (hc : c + 10 * (2 * n + 2) < 10000) : c + i * (2 * n + 2) + 1 < 10000 := Nat.lt_of_le_of_lt (Nat.le_succ _) (Nat.lt_of_le_of_lt (ri_t3 e h) hc)
theorem tb_a (h : k ≤ 4) (h' : i < k) (hc : c + 1000 < 10000) : c + 20 * i + 20 < 10000 := Nat.lt_of_le_of_lt (om_mul (b := 1000) h' h (by decide)) hc
theorem tb_c (h : k ≤ 4) (e : s = k) : c + 20 * s + 700 ≤ c + 1000 := Nat.add_le_add_right (om_mue (b := 300) (e ▸ h) (by decide)) 700
theorem tb_b (h : k ≤ 4) (e : s = k) (hc : c + 1000 < 10000) : c + 20 * s + 700 < 10000 := Nat.lt_of_le_of_lt (tb_c h e) hc
end
theorem off_LD0 : True := by
  w_top off
  trivial
noncomputable def FigL (us : List Value) : Prop := ∃ ns, IntsAre us ns ∧ (∀ x ∈ ns, 0 ≤ x) ∧ us.length ≤ 90
noncomputable abbrev DrawV (l : Addr) (many : Int) : Heap → Heap → Value → Prop := fun h h' v => ∃ i t us n, v = .int i t ∧ 0 ≤ i ∧ i < many ∧ FigL us ∧ h'.get? l = some (W.listOf us.toArray n)
theorem FigL.pop {us : List Value} {ns : List Int} (h1 : IntsAre us.dropLast ns.dropLast) (h2 : ∀ x ∈ ns, 0 ≤ x) (h3 : us.length ≤ 90) : FigL us.dropLast :=
  ⟨_, h1, fun x hx => h2 x (List.dropLast_subset _ hx), by simp; walk_at "mine om"⟩
theorem empty_eq {w : World} {A : Around} {E : Value → Shared → Prop} {s : Shared} {l b : Addr} {Q : Value → Shared → Prop} (hl : s.heap.IsList l #[]) (hb : s.heap.IsList b #[]) (hu : A.units < cLine) (h : Q (.bool true) s) : wpAny (model PG w) A (compareOp .Eq (.ref l) (.ref b)) Q E s :=
  SeqAt.eq_listAt (e := fun _ => true) hl hb rfl hu (fun j h1 h2 => absurd h2 (by first | walk_at "mine mem1" | simp)) h
theorem nonempty_eq {w : World} {A : Around} {E : Value → Shared → Prop} {s : Shared} {l b : Addr} {us : List Value} {Q : Value → Shared → Prop} (hl : s.heap.IsList l us.toArray) (hne : 0 < us.length) (hb : s.heap.IsList b #[]) (hu : A.units < cLine) (h : Q (.bool false) s) : wpAny (model PG w) A (compareOp .Eq (.ref l) (.ref b)) Q E s :=
  SeqAt.eq_list_lengthsAt hl hb (by simp; intro e; subst e; simp at hne) hu h
structure FgS where
  us : List Value
  n : Nat
structure FwS where
  us : List Value
  n : Nat
  whole : Int
  tw : Tok
noncomputable def Ints0 (us : List Value) (k : Nat) : Prop := ∃ ns, IntsAre us ns ∧ (∀ x ∈ ns, 0 ≤ x) ∧ us.length ≤ k
theorem intsAre_snoc {us : List Value} {ns : List Int} {x : Int} {t : Tok} (h : IntsAre us ns) : IntsAre (us ++ [.int x t]) (ns ++ [x]) := by
  induction h with
  | nil => exact .cons x t .nil
  | cons y u _ ih => exact .cons y u ih
theorem Ints0.snoc {us : List Value} {k : Nat} {x : Int} {t : Tok} (h : Ints0 us k) (hx : 0 ≤ x) : Ints0 (us ++ [.int x t]) (k + 1) :=
  let ⟨ns, a, b, c⟩ := h; ⟨ns ++ [x], intsAre_snoc a, fun y hy => (List.mem_append.mp hy).elim (b y) fun q => by simp at q; walk_at "mine om", by simp; walk_at "mine om"⟩
theorem intsAre_at {vs : List Value} {ns : List Int} {i : Nat} {v : Value} (h : IntsAre vs ns) (e : vs[i]? = some v) : ∃ x t, ns[i]? = some x ∧ v = .int x t := by
  induction h generalizing i with
  | nil => cases i <;> cases e
  | cons x t r ih =>
    cases i with
    | zero => exact ⟨x, t, rfl, (Option.some.inj e).symm⟩
    | succ i => exact ih e
theorem small24 : Builtin.Range.small 0 24 1 = true := by decide
theorem size24 : Builtin.Range.rangeSize 0 24 1 = ((24 : Nat) : Int) := by decide
theorem intsAre_rev {us : List Value} {ns : List Int} (h : IntsAre us ns) : IntsAre us.reverse ns.reverse := by
  induction h with
  | nil => exact .nil
  | cons x t _ ih => rw [List.reverse_cons, List.reverse_cons]; exact intsAre_snoc ih
theorem FigL.rev {us : List Value} {ns : List Int} (h : IntsAre us (List.take 90 ns)) (hn : ∀ x ∈ ns, 0 ≤ x) : FigL us.reverse :=
  ⟨_, intsAre_rev h, fun x hx => hn x (List.mem_of_mem_take (List.mem_reverse.mp hx)), by rw [List.length_reverse, h.length]; exact List.length_take_le 90 ns⟩
theorem off_LR0 : True := by
  w_top off
  trivial
noncomputable abbrev tup2 (k n : Str) (t1 t2 : Tok) : Obj := { cls := .type "tuple", data := .seq #[.str k t1, .str n t2] }
inductive RowsIn (fz : List (Addr × Obj)) : List Value → List (Str × Str) → Prop
  | nil : RowsIn fz [] []
  | cons {q : Addr} {k n : Str} {t1 t2 : Tok} {vs : List Value} {rs : List (Str × Str)} : (q, tup2 k n t1 t2) ∈ fz → RowsIn fz vs rs → RowsIn fz (.ref q :: vs) ((k, n) :: rs)
theorem RowsIn.get {fz : List (Addr × Obj)} {vs : List Value} {rs : List (Str × Str)} {i : Nat} {v : Value} (r : RowsIn fz vs rs) (h : vs[i]? = some v) : ∃ q k n t1 t2, v = .ref q ∧ rs[i]? = some (k, n) ∧ (q, tup2 k n t1 t2) ∈ fz := by
  induction r generalizing i with
  | nil => exact nomatch (h : none = some v)
  | cons m _ ih =>
    cases i with
    | zero => exact ⟨_, _, _, _, _, (Option.some.inj h).symm, rfl, m⟩
    | succ i => exact ih h
theorem RowsIn.sub {fz fz' : List (Addr × Obj)} (hs : ∀ p ∈ fz, p ∈ fz') {vs : List Value} {rs : List (Str × Str)} (h : RowsIn fz vs rs) : RowsIn fz' vs rs := by
  induction h with
  | nil => exact .nil
  | cons m _ ih => exact .cons (hs _ m) ih
theorem RowsIn.snoc {fz : List (Addr × Obj)} {q : Addr} {k n : Str} {t1 t2 : Tok} (m : (q, tup2 k n t1 t2) ∈ fz) : ∀ {vs : List Value} {rs : List (Str × Str)}, RowsIn fz vs rs → RowsIn fz (vs ++ [.ref q]) (rs ++ [(k, n)]) := by
  intro vs rs x
  induction x with
  | nil => exact .cons m .nil
  | cons m' r ih => exact .cons m' ih
theorem RowsIn.length {fz : List (Addr × Obj)} : ∀ {vs : List Value} {rs : List (Str × Str)}, RowsIn fz vs rs → vs.length = rs.length
  | _, _, .nil => rfl
  | _, _, .cons _ r => by simp [r.length]
noncomputable def rowsL : List (Str × Str) := [("TN", "switch_on_constant"), ("UN", "switch_on_structure"), ("NNNN", "switch_on_term"), ("NN", "try"), ("N", "retry trust allocate"), ("YX", "put_unsafe_value"), ("Y", "catch_exit"), ("FN", "call"), ("F", "execute builtin"), ("RX", "get_variable get_value put_variable put_value"), ("CX", "get_constant put_constant"), ("FX", "get_structure put_structure"), ("X", "get_list put_list put_void"), ("R", "unify_variable unify_value unify_local_value set_variable set_value set_local_value mark get_level cut_to"), ("C", "unify_constant set_constant"), ("N", "unify_void set_void meta_call"), ("", "proceed deallocate neck_cut fail halt catch_push catch_fail dyn_retry"), ("N", "jump")].map fun p => (Str.ofString p.1, Str.ofString p.2)
structure RwS where
  its : List Value
  n : Nat
  own : List (Addr × Obj)
theorem news_ne {g h : Heap} {L : Addr} {news : List (Addr × Obj)} (N : News g L h news) {p q : Addr × Obj} (hp : p ∈ news) (hq : q ∈ news) (hc : p.2.cls ≠ q.2.cls) : p.1 ≠ q.1 := fun e => by
  have h1 := (N p hp).1
  have h2 := (N q hq).1
  rw [e, h2] at h1
  exact hc (by rw [Option.some.inj h1])
theorem rows_abs {g h : Heap} {L LL RL : Addr} {its : Array Value} {tl : List (Addr × Obj)} (N : News g L h ((LL, W.listOf its 0) :: tl)) (hlast : (RL, W.listOf #[] 0) ∈ tl) (hR : RowsIn tl.dropLast its.toList rowsL) (hc : ∀ p ∈ tl.dropLast, p.2.cls = .type "tuple") (hlt : @LT.lt Nat _ RL LL) :
    ∃ fz, News g L h ((LL, W.listOf its 0) :: (RL, W.listOf #[] 0) :: fz) ∧ RowsIn fz its.toList rowsL ∧ (∀ p ∈ fz, p.1 ≠ LL) ∧ (∀ p ∈ fz, p.1 ≠ RL) ∧ RL ≠ LL := by
  have hsub : ∀ p ∈ tl.dropLast, p ∈ tl := fun p hp => List.dropLast_subset _ hp
  refine ⟨tl.dropLast, news_sub N fun p hp => ?_, hR, fun p hp => ?_, fun p hp => ?_, Nat.ne_of_lt hlt⟩
  · rcases List.mem_cons.mp hp with h | hp
    · exact h ▸ .head _
    · rcases List.mem_cons.mp hp with h | hp
      · exact h ▸ .tail _ hlast
      · exact .tail _ (hsub p hp)
  · exact news_ne N (.tail _ (hsub p hp)) (.head _) (by rw [hc p hp]; simp [W.listOf])
  · exact news_ne N (.tail _ (hsub p hp)) (.tail _ hlast) (by rw [hc p hp]; simp [W.listOf])
noncomputable def expS (p : Str × Str) : List (Str × Str) := (Txt.split p.2 (Str.ofString " ")).map fun n => (n, p.1)
theorem rowsL_short : ∀ p ∈ rowsL, p.2.length ≤ 200 := by decide
theorem mem_swap {α : Type} {x y : α} {l : List α} : ∀ p ∈ x :: y :: l, p ∈ y :: x :: l := Sub.out (by walk_at "mine sub")
theorem rows_small : ∀ i : Nat, i < 18 → ((rowsL.take i).flatMap expS).length + (match rowsL[i]? with | some p => (expS p).length | none => 0) ≤ 60 := by decide +kernel
theorem strsAre_len2 (i r : Nat) {k nm : Str} (hr : rowsL[i]? = some (k, nm)) : ((rowsL.take i).flatMap expS ++ ((Txt.split nm (Str.ofString " ")).take r).map (fun n => (n, k))).length ≤ 16384 := by
  have hi : i < 18 := (List.getElem?_eq_some_iff.mp hr).1
  have h := rows_small i hi
  rw [hr] at h
  have h2 := List.length_take_le' r (Txt.split nm (Str.ofString " "))
  simp only [expS, List.length_map, List.length_append] at h ⊢
  walk_at "mine om"
noncomputable def rowsS : List (Str × Str) := rowsL.flatMap expS
noncomputable abbrev RowsV (h h' : Heap) (v : Value) : Prop := ∃ p its n own, v = .ref p ∧ RowsIn own its rowsS ∧ Led h h' [] ((p, W.listOf its.toArray n) :: own)
theorem off_TW0 : True := by
  w_top off
  trivial
noncomputable def entT (q : (Int ⊕ Str) × Int) : Str := conT q.1 ++ Str.ofString ":" ++ numT q.2
noncomputable def entU (q : (Str × Int) × Int) : Str := funT q.1.1 q.1.2 ++ Str.ofString ":" ++ numT q.2
structure NumOk (i : Int) : Prop where
  lo : -1000000 < i
  hi : i < 1000000
  dig : (Str.ofString (toString (if i < 0 then -i else i))).length ≤ 20
  len : (numT i).length ≤ 30
structure EntTOk (q : (Int ⊕ Str) × Int) : Prop where
  key : ConOk q.1
  long : (conT q.1).length ≤ 40
  num : NumOk q.2
structure EntUOk (q : (Str × Int) × Int) : Prop where
  name : alnumS q.1.1 = true
  short : q.1.1.length ≤ 18
  num : NumOk q.1.2
  long : (funT q.1.1 q.1.2).length ≤ 60
  val : NumOk q.2
noncomputable abbrev WordsV (ws : List Str) (st : SymSt) (v : Value) (own : List (Addr × Obj)) (st' : SymSt) : Prop := ∃ p its n, v = .ref p ∧ own = [(p, W.listOf its n)] ∧ StrsAre its.toList ws ∧ st' = st
structure TwS where
  its : Array Value
  n : Nat
  sy : List (Addr × Obj)
theorem strsAre_push {its : Array Value} {ws : List Str} {x : Str} {t : Tok} (h : StrsAre its.toList ws) : StrsAre (its.push (.str x t)).toList (ws ++ [x]) := by
  rw [Array.toList_push]; exact StrsAre.append' h (.cons x t .nil)
theorem strsAre_size {its : Array Value} {ws : List Str} (h : StrsAre its.toList ws) : its.size = ws.length := by rw [← h.length]; simp
theorem mem_tw {w : World} {a : SymA} {P : Addr × Obj} {sy it : List (Addr × Obj)} : ∀ p ∈ (P :: it) ++ symR w a sy, p ∈ (P :: symI a :: symJ w a :: sy) ++ it := Sub.out (by walk_at "mine sub")
theorem mem_twb {w : World} {a : SymA} {P : Addr × Obj} {sy it : List (Addr × Obj)} : ∀ p ∈ P :: symI a :: symJ w a :: (sy ++ it), p ∈ (P :: it) ++ ([] ++ symR w a sy) := Sub.out (by walk_at "mine sub")
theorem tw_off {w : World} {a : SymA} {P : Addr} {o : Obj} {it sy sy9 : List (Addr × Obj)} (hA : OwnOff it (((P, o) :: symI a :: symJ w a :: sy).map (·.1))) (O9 : OwnOff sy9 (((P, o) :: it).map (·.1))) : OwnOff it (P :: a.s :: a.d :: sy9.map (·.1)) := fun x hx b hb => by
  have hA' : ∀ y ∈ ((P, o) :: symI a :: symJ w a :: sy), x.1 ≠ y.1 := fun y hy => hA x hx _ (List.mem_map.mpr ⟨y, hy, rfl⟩)
  rcases List.mem_cons.mp hb with rfl | hb
  · exact hA' _ (.head _)
  · rcases List.mem_cons.mp hb with rfl | hb
    · exact hA' _ (.tail _ (.head _))
    · rcases List.mem_cons.mp hb with rfl | hb
      · exact hA' _ (.tail _ (.tail _ (.head _)))
      · obtain ⟨y, hy, rfl⟩ := List.mem_map.mp hb
        exact fun e => O9 y hy x.1 (.tail _ (List.mem_map.mpr ⟨x, hx, rfl⟩)) e.symm
end
end
section
local macro_rules | `(tactic| walk_at $s) => fwd "J24 " s
section
theorem words_J31 : True := by
  k_with "J31 compareOp Eq ref ref" => refine Hold.in ?_
  trivial
local macro_rules | `(tactic| walk_at $s) => fwd "J31 " s
theorem off_LD1 : True := by
  w_top off
  trivial
theorem law_draw_spec (w mean mg mb) (l : Addr) (us : List Value) (n : Nat) (many : Int) (t : Tok) (hm : 0 < many) : Spec w mean mg mb 397 [.ref l, .int many t] [(l, W.listOf us.toArray n)] 4 60 (fun _ => FigL us) (DrawV l many) NoExc := by
  refine Spec.of ?_
  intro dp un gd cn cs a ccd cl outer A₀ base h₀ L m hh gn dr tk os Q E B F X N T hk hd hu hpre hret hthr
  have hB : Bind [(Str.ofString "figures", Value.ref l), (Str.ofString "many", Value.int many t)] := .is
  refine let_goal ?_
  intro gl_P
  obtain ⟨ns, hI, hnn, hsz⟩ := hpre
  dsimp only [gl_P]
  clear gl_P
  by_cases hz0 : us = []
  · subst hz0
    walk_at "mine enter"
    k_steps
    rename News _ _ _ _ => N9
    unfold Hold
    refine empty_eq ⟨_, (N9 _ (.tail _ (.head _))).1, rfl, _, rfl⟩ ⟨_, (N9 _ (.head _)).1, rfl, _, rfl⟩ (by ktr_units) ?_
    k_steps
    rename News _ _ _ _ => N8
    exact hret _ _ _ (keeps_of (h := hh) (by assumption) (by assumption)) ⟨0, _, [], _, rfl, Int.le_refl _, hm, ⟨ns, hI, hnn, hsz⟩, (N8 _ (.tail _ (.head _))).1⟩
  · have hne : 0 < us.length := List.length_pos_iff.mpr hz0
    have hzz : us.length ≤ sizeLine := by rw [sizeLine_eq]; walk_at "mine om"
    walk_at "mine enter"
    k_steps
    rename News _ _ _ _ => N9
    unfold Hold
    refine nonempty_eq ⟨_, (N9 _ (.tail _ (.head _))).1, rfl, _, rfl⟩ hne ⟨_, (N9 _ (.head _)).1, rfl, _, rfl⟩ (by ktr_units) ?_
    k_steps
    rename News _ _ _ _ => N8
    refine let_goal ?_
    intro gl_P
    obtain ⟨_, _, _, _, h3⟩ := kpa_ints hI hne
    dsimp only [gl_P]
    clear gl_P
    exact hret _ _ _ (keeps_of (h := hh) (by assumption) (by assumption)) ⟨_, _, us.dropLast, _, rfl, Int.fmod_nonneg_of_pos _ hm, Int.fmod_lt_of_pos _ hm, FigL.pop h3 hnn hsz, (N8 _ (.tail _ (.head _))).1⟩
section
variable {w : World} {mean : ExcName → Option Value} {mg mb : Str → Option Value} {dp un : Nat} {gd : Option (List Code)} {cn : Str} {cs : Scope} {ca : Addr} {ccd : Value} {cl : List (Str × Addr)} {outer : List Env} {A₀ : Around} {base h₀ : Heap} {L : Addr} {m : Str → Option Value} {Q E : Value → Shared → Prop} {R : List (Addr × Obj)}
theorem useDraw {l : Addr} {us : List Value} {n : Nat} {many : Int} {t : Tok} {h : Heap} {gn : Array GenState} {dr : Drawn} {tk : Nat} {os : OsState} (hm : 0 < many) (B : Below A₀ base outer h₀) (F : Fr h₀ L h m) (X : (Mine.hd.heap_1 w.params).In h₀) (N : News h₀ L h (R ++ [(l, W.listOf us.toArray n)])) (T : Top PV LO mean mg mb h₀) (hk : cs.kind = .function)
    (hd : dp + 4 < recursionLimit) (hu : un + 60 < cLine) (hf : FigL us) (off : ∀ q ∈ R, q.1 ≠ l)
    (ret : ∀ i t' h' tk' us' n', 0 ≤ i → i < many → FigL us' → Fr h₀ L h' m → News h₀ L h' (R ++ [(l, W.listOf us'.toArray n')]) → Q (.int i t') ⟨h', gn, dr, tk', os⟩) :
    wpAny (model PG w) (ktrTop dp un gd cn cs L ca ccd cl outer) (call (.ref 397) [.ref l, .int many t]) Q E ⟨h, gn, dr, tk, os⟩ :=
  (law_draw_spec w mean mg mb l us n many t hm).use B F X N T hk hd hu (fun p hp => List.mem_append.mpr (.inr hp)) hf (fun v h' tk' k F' po => by
    refine let_goal ?_
    intro gl_P
    obtain ⟨i, t', us', n', e, h1, h2, hF, hg⟩ := po
    dsimp only [gl_P]
    clear gl_P
    subst e
    refine ret i t' h' tk' us' n' h1 h2 hF F' fun p hp => ?_
    rcases List.mem_append.mp hp with hp | hp
    · have := N p (List.mem_append.mpr (.inl hp))
      exact ⟨k _ _ this.1 (fun hx => off p hp (List.mem_singleton.mp hx)), this.2⟩
    · rw [List.mem_singleton.mp hp]
      exact ⟨hg, (N _ (List.mem_append.mpr (.inr (.head _)))).2⟩) fun _ _ _ x => x.no
end
end
section
theorem words_J32 : True := by
  k_with "J32 eval Dict" => refine Hold.in ?_
  trivial
local macro_rules | `(tactic| walk_at $s) => fwd "J32 " s
theorem off_SH1 : True := by
  w_top off
  trivial
noncomputable def shapesL : List (Str × Str) := [("get_variable", "RX"), ("get_value", "RX"), ("get_constant", "CX"), ("get_list", "X"), ("get_structure", "FX"), ("unify_variable", "R"), ("unify_value", "R"), ("unify_local_value", "R"), ("unify_constant", "C"), ("unify_void", "N"), ("put_variable", "RX"), ("put_void", "X"), ("put_value", "RX"), ("put_unsafe_value", "YX"), ("put_constant", "CX"), ("put_list", "X"), ("put_structure", "FX"), ("set_variable", "R"), ("set_value", "R"), ("set_local_value", "R"), ("set_constant", "C"), ("set_void", "N"), ("allocate", "N"), ("deallocate", ""), ("call", "FN"), ("execute", "F"), ("proceed", ""), ("builtin", "F"), ("neck_cut", ""), ("get_level", "R"), ("mark", "R"), ("cut_to", "R"), ("fail", ""), ("halt", ""), ("try", "LN"), ("retry", "L"), ("trust", "L"), ("switch_on_term", "LLLL"), ("switch_on_constant", "TL"), ("switch_on_structure", "UL"), ("meta_call", "N"), ("catch_push", ""), ("catch_exit", "Y"), ("catch_fail", ""), ("dyn_retry", "")].map fun p => (Str.ofString p.1, Str.ofString p.2)
theorem LitS.of {w : World} {A : Around} {E : Value → Shared → Prop} {env : Env} {x : Str} {k : Nat} {pos : Pos} : LitS w A E (eval (.Constant (.str x) k pos) env) x := fun _ _ h => Constant_str (h _ _)
theorem LitS.of2 {w : World} {A : Around} {E : Value → Shared → Prop} {env : Env} {x : Str} {k : Nat} {pos p2 : Pos} : LitS w A E (do let v ← eval (.Constant (.str x) k pos) env; standAt p2; pure v) x := fun _ _ h => wpAny_bind (Constant_str (wpAny_bind (wpAny_standAt (wpAny_pure (h _ _)))))
theorem Dict_S {w : World} {A : Around} {E : Value → Shared → Prop} {env : Env} {s : Shared} {keys : List (Option PySem.Expr)} {values : List PySem.Expr} {pos : Pos} {l : List (Str × Str)} {Q : Value → Shared → Prop} {h₀ : Heap} {L : Addr} {m : Str → Option Value} (F : Fr h₀ L s.heap m) (hbig : h₀.NoLimit)
    (hall : keys.all (·.isSome) = true) (hl : keys.length = values.length) (hL : LitP w A E (pairTrees keys values env pos) l) (hn : (l.map (·.1)).Nodup) (hne : l ≠ []) (hz : l.length ≤ 100)
    (h : ∀ d h' tk', DctS w h' d l → Keeps s.heap h' [] → s.heap.get? d = none → (d == sysModules) = false → Q (.ref d) { s with heap := h', toks := tk' }) :
    wpAny (model PG w) A (eval (.Dict keys values pos) env) Q E s := by
  rw [arm_eval_Dict, zip_pairTrees keys values env pos hall hl]
  exact wpAny_bind (wpAny_standAt (disp_S hL hn hne hz (Nat.lt_of_lt_of_le (modules_low hbig) (Nat.le_trans F.above (Nat.le_of_lt F.ns.lt))) fun d h' tk' D k f lo => h d h' tk' D (fun b o e _ => k b o e) f lo))
local macro_rules | `(tactic| walk_at $s) => Lean.Macro.throwUnsupported
theorem shapes_spec (w mean mg mb) : Spec w mean mg mb 208 [] [] 4 60 NoPre (fun h h' v => ∃ d, v = .ref d ∧ h.get? d = none ∧ FormsAt d (datS shapesL) w h') NoExc := by
  refine Spec.of ?_
  intro dp un gd cn cs a ccd cl outer A₀ base h₀ L m hh gn dr tk os Q E B F X N T hk hd hu hpre hret hthr
  have hB : Bind [] := .is
  walk_at "mine enter"
  k_steps
  unfold Hold
  refine' Dict_S (l := shapesL) ?k1 ?k2 ?k3 ?k4 ?k5 ?k6 ?k7 ?k8 ?k9
  case k1 => assumption
  case k2 => exact Top.nolimit (by assumption)
  case k3 => exact rfl
  case k4 => exact rfl
  case k5 =>
    dsimp only [shapesL, List.map_cons, List.map_nil, pairTrees]
    repeat (first | exact .nil | refine .cons LitS.of LitS.of2 ?_)
  case k6 => decide +kernel
  case k7 => exact List.cons_ne_nil _ _
  case k8 => decide
  intro d h9 tk9 D9 K9 n9 l9
  dsimp only at K9 n9 ⊢
  rename News _ _ _ _ => N8
  rename Fr _ _ _ _ => F8
  have n8 : hh.get? d = none := by
    cases q : hh.get? d with
    | none => rfl
    | some o =>
      have := keeps_of (h := hh) (by assumption) F8 d o q (by first | walk_at "mine mem1" | simp)
      rw [n9] at this; cases this
  have F9 := fr_keeps F8 N8 K9
  have N9 := news_keeps0 N8 K9
  (try k_fold)
  (try k_sweep)
  k_steps
  refine hret _ _ _ (keeps_of (h := hh) (by assumption) (by assumption)) ⟨d, rfl, ?_, ?_⟩
  · exact n8
  · obtain ⟨kvs, e1, e2, e3⟩ := D9
    exact ⟨l9, kvs, e1, e2⟩
end
section
theorem words_J33 : True := by
  k_with "J33 mine om" => with_reducible first | exact ri_w (by assumption) | exact ri_w2 (by assumption) | exact ri_w3 (by assumption) | exact ri_t (by assumption) (by assumption) | exact ri_t1 (by assumption) (by assumption) | exact ri_t2 (by assumption) (by assumption) | exact ri_t3 (by assumption) (by assumption) | exact ri_l (by assumption) (by assumption) (by assumption) | exact ri_l2 (by assumption) (by assumption) (by assumption) | exact ri_l3 (by assumption) (by assumption) (by assumption)
  k_with "J33 call builtin:list.append" => refine Hold.in ?_
  k_with "J33 call type:tuple" => refine Hold.in ?_
  k_with "J33 exec For Name Subscript cons nil" => refine Hold.in ?_
  k_with "J33 compareOp NotIn str ref" => (k_here; k_dflt (refine notin_known (FormsAt.keep (by assumption) (by assumption)) (by assumption) ?_))
  k_with "J33 subscriptTail" => ((with_reducible show wpAny _ _ (subscriptTail _ _ (Value.ref _) (Value.str _ _)) _ _ _); refine item_forms (FormsAt.keep (by assumption) (by assumption)) (by assumption) ?_ (by with_unfolding_all rfl) (by intro _; with_unfolding_all rfl); intro t9_w)
  trivial
local macro_rules | `(tactic| walk_at $s) => fwd "J33 " s
theorem off_RI1 : True := by
  w_top off
  trivial
theorem read_instruction_spec (w mean mg mb) (a : SymA) (st : SymSt) (c : Nat) (sy : List (Addr × Obj)) (wl tb : Addr) (vs : Array Value) (ws : List Str) (D : List (PyData × PyData)) (ks : Str) (hlk : PySem.Spec.lookup (.str (ws.getD 0 Str.empty)) D = some (.str ks)) (hks : ks.length ≤ 10) (hkk : ∀ x ∈ ks.cps.toList, x ∈ kindL) (hnm : (ws.getD 0 Str.empty).length ≤ 30) (h0 : 0 < ws.length) (hz : ws.length ≤ 200) (hwo : ∀ j, 0 < j → EntryOk (ws.getD j Str.empty)) (hww : ∀ j, 0 < j → j < ws.length → WordOk (ws.getD j Str.empty)) (hq : wl ∉ (symR w a sy).map (·.1)) (hqt : tb ∉ (symR w a sy).map (·.1)) :
    Spec w mean mg mb 383 [.ref a.s, .ref wl, .ref tb] (symR w a sy) 24 440 (fun h => SyP w a st c sy ∧ c + 10 * (2 * ws.length + 2) < 10000 ∧ h.IsList wl vs ∧ StrsAre vs.toList ws ∧ FormsAt tb D w h)
      (SyPostO w a (c + 10 * (2 * ws.length + 2)) sy (InsV w ks.cps.toList (ws.getD 0 Str.empty) (insS ks.cps.toList ws) st)) (SyExc w a st (c + 10 * (2 * ws.length + 2)) sy (insS ks.cps.toList ws = none)) := by
  obtain ⟨as, ad, a1, a2, a3, a4, k1, k2, k3, k4⟩ := a
  refine Spec.of ?_
  intro dp un gd cn cs a ccd cl outer A₀ base h₀ L m hh gn dr tk os Q E B F X N T hk hd hu hpre hret hthr
  have hB : Bind [(Str.ofString "symbols", Value.ref as), (Str.ofString "words", Value.ref wl), (Str.ofString "table", Value.ref tb)] := .is
  refine let_goal ?_
  intro gl_P
  obtain ⟨P, hc, hl0, hS, hT0⟩ := hpre
  dsimp only [gl_P]
  clear gl_P
  dsimp only [symR, symI, symJ] at *
  walk_at "mine enter"
  have hl : Heap.IsList _ wl vs := let ⟨o, ho, r⟩ := hl0; ⟨o, (‹Keeps hh _ _› : Keeps hh _ _) _ _ ho hq, r⟩
  have hT := forms_keeps (by assumption) hT0 hqt
  have hsz : vs.toList.length = ws.length := hS.length
  have hlk0 : PySem.Spec.lookup (.str (ws.getD (Int.toNat 0) Str.empty)) D = some (.str ks) := hlk
  have hnm0 : (ws.getD (Int.toNat 0) Str.empty).length ≤ 30 := hnm
  k_steps
  walk_at "mine for"
  unfold Hold
  rename Fr _ _ _ _ => lF'
  rename News _ _ _ _ => lN'
  rename _ ∧ _ ∧ AllLt _ _ => l1
  have hcl : ks.cps.toList.length = ks.length := by simp [Str.length]
  obtain ⟨PL, hPL, _⟩ : ∃ x : Addr, x = _ ∧ News _ _ _ ((x, W.listOf _ _) :: _) := ⟨_, rfl, lN'⟩
  subst hPL
  obtain ⟨tw, lN⟩ : ∃ tw, News _ _ _ ((PL, W.listOf #[Value.str (ws.getD 0 Str.empty) tw] 0) :: (as, instObj 155 ad) :: (ad, dictOf (symE w a1 a2 a3 a4 k1 k2 k3 k4) 4) :: sy) := ⟨_, lN'⟩
  clear lN'
  refine' texts_s (σ := RiS) (fun q => (PL, W.listOf q.its q.n) :: (as, instObj 155 ad) :: (ad, dictOf (symE w a1 a2 a3 a4 k1 k2 k3 k4) 4) :: (q.own ++ q.sy)) (fun q => [(Str.ofString "place", .int (q.j : Int) q.tj)]) [Str.ofString "pair"]
    (fun i q => 0 < q.j ∧ q.j ≤ ws.length ∧ q.its = (Value.str (ws.getD 0 Str.empty) tw :: q.vals).toArray ∧ OpsV w q.st (ks.cps.toList.take i) q.ds q.vals q.own ∧ SyP w ⟨as, ad, a1, a2, a3, a4, k1, k2, k3, k4⟩ q.st (c + i * (2 * ws.length + 2)) q.sy ∧ st.le q.st ∧ (∀ x ∈ q.own, ∀ p ∈ symR w ⟨as, ad, a1, a2, a3, a4, k1, k2, k3, k4⟩ q.sy, p.1 ≠ x.1) ∧ (∀ x ∈ q.own, x.1 ≠ PL) ∧ (∀ x ∈ q.sy, x.1 ≠ PL) ∧
      (opsS (ks.cps.toList.drop i) ws q.j).map (fun p => (q.ds ++ p.1, p.2)) = opsS ks.cps.toList ws 1)
    ⟨1, _, [], [], [], _, _, st, sy⟩ rfl lF' lN ?hps ?hinv ?turn ?done
  case hps => exact List.forall_mem_cons.mpr ⟨by rfl, fun _ h => nomatch h⟩
  case hinv =>
    refine ⟨Nat.one_pos, h0, rfl, .nil, P.more (by walk_at "mine om"), st.le_refl, List.forall_mem_nil _, List.forall_mem_nil _, AllLt.off l1.2.2, ?_⟩
    simp
  case turn =>
    rintro i k tk5 ⟨j, tj, ds, vals, own, its, n, st2, sy2⟩ uu h2 tk2 it hki hI0 hA F2 N2
    with_reducible refine and10 hI0 fun q1 q2 q3 q4 q5 q5' q6 q7 q8 q9 => ?_
    clear hI0
    (try dsimp only at *)
    clear lF' lN
    have hw : j < ws.length → (ws.getD ((j : Int)).toNat Str.empty).length ≤ 18 := fun h => (hww j q1 h).long
    have hkL := hkk k (List.mem_of_getElem? (by simpa using hki))
    have hki' : ks.cps.toList[i]? = some k := by simpa using hki
    have hK1 : (i + 1) * (2 * ws.length + 2) = i * (2 * ws.length + 2) + (2 * ws.length + 2) := Nat.succ_mul _ _
    have hK2 : (i + 1) * (2 * ws.length + 2) ≤ 10 * (2 * ws.length + 2) := Nat.mul_le_mul_right _ (Nat.le_trans (List.getElem?_eq_some_iff.mp hki').1 (Nat.le_trans (Nat.le_of_eq hcl) hks))
    have hmem : ∀ p ∈ symR w ⟨as, ad, a1, a2, a3, a4, k1, k2, k3, k4⟩ sy2, p ∈ ((PL, W.listOf its n) :: (as, instObj 155 ad) :: (ad, dictOf (symE w a1 a2 a3 a4 k1 k2 k3 k4) 4) :: (own ++ sy2)) ++ it := fun p hp => List.mem_append.mpr (.inl (mem_symks p hp))
    have N3 := news_sub N2 (mem_turn (w := w) (a := ⟨as, ad, a1, a2, a3, a4, k1, k2, k3, k4⟩) (P := (PL, W.listOf its n)) (own := own) (sy := sy2) (it := it))
    have hq3 : wl ∉ (symR w ⟨as, ad, a1, a2, a3, a4, k1, k2, k3, k4⟩ sy2).map (·.1) := let ⟨o, ho, _⟩ := hl; off_frozen N2 hmem ho
    have hoff : ∀ q ∈ (PL, W.listOf its n) :: (own ++ it), ∀ p ∈ symR w ⟨as, ad, a1, a2, a3, a4, k1, k2, k3, k4⟩ sy2, p.1 ≠ q.1 := by
      refine List.forall_mem_cons.mpr ⟨List.forall_mem_cons.mpr ⟨Nat.ne_of_lt l1.1, List.forall_mem_cons.mpr ⟨Nat.ne_of_lt l1.2.1, q8⟩⟩, fun q hq p hp => ?_⟩
      rcases List.mem_append.mp hq with hq | hq
      · exact q6 q hq p hp
      · exact fun e => hA q hq p.1 (List.mem_map.mpr ⟨p, mem_symks p hp, rfl⟩) e.symm
    with_reducible refine gen_postH fun Qt hHt hQt => ?_
    with_reducible refine' execs_join (¬ws.length ≤ j) (fun Q1 hQ1 hQ2 => ?_) (fun hjl tk9 => ?_)
    · k_steps
      · walk_at "mine thrown"
        intro Bh hB _
        refine SyExc.newN (sy' := sy2) (by assumption) N3 (fun p hp => List.mem_append.mpr (.inr hp)) hB ?_ q5' q5 (by walk_at "mine om")
        exact ins_none (ops_lack hki' (by walk_at "mine om") q9)
      · exact hQ2 _ (by walk_at "mine om")
    by_cases hk84 : k = 84
    · subst hk84
      rw [show (⟨#[84]⟩ : Str) = Str.ofString "T" from rfl] at F2
      k_steps
      refine' Spec.useOh (R := (PL, W.listOf its n) :: (own ++ it)) (read_table_T _ _ _ _ ⟨as, ad, a1, a2, a3, a4, k1, k2, k3, k4⟩ st2 (c + i * (2 * ws.length + 2)) sy2 wl vs ws j _ _ (by walk_at "mine om") hz hq3 (fun j' hj' => hwo j' (by walk_at "mine om"))) (fun _ _ _ z => z) ?k1 ?k2 ?k3 N3 ?k5 ?kK ?kd ?ku ?kp hoff ?_ ?_
      case k1 => k_asm
      case k2 => k_asm
      case k3 => k_asm
      case k5 => k_asm
      case kK => first | exact rfl | assumption
      case kd => ktr_room
      case ku => ktr_units
      case kp => exact ⟨q5, by walk_at "mine om", let ⟨o, ho, r⟩ := hl; ⟨o, Fr.keep (by assumption) _ _ ho, r⟩, ‹StrsAre _ _›⟩
      · intro v9 h9 tk9 own9 st9 sy9 qq P9 F9 N9 O9 D9 S9
        refine let_goal ?_
        intro gl_P
        obtain ⟨tp, Dd, o9, l9, ks9, en, t9, r9, e9, eo9, lo9, x9, le9⟩ := qq
        dsimp only [gl_P]
        clear gl_P
        subst e9
        subst eo9
        refine let_goal ?_
        intro gl_P
        obtain ⟨o1, o2, o3, o4⟩ := turn_offs (own9 := ((Dd, o9) :: ks9)) hA (fun q hq p hp => D9 q hq p (.tail _ hp)) O9 q6 q7 (fun q hq => S9 q (.tail _ hq))
        dsimp only [gl_P]
        clear gl_P
        have f9 := tabS_facts r9
        have N10 := news_sub N9 (mem_turnT (w := w) (a := ⟨as, ad, a1, a2, a3, a4, k1, k2, k3, k4⟩) (P := (PL, W.listOf its n)) (own := own) (own9 := ((Dd, o9) :: ks9)) (it := it))
        clear N9 N3 N2
        dsimp only [symI, symJ] at N10
        obtain ⟨rest, hrest⟩ : ∃ r, r = ((((Dd, o9) :: ks9) ++ own) ++ sy9) ++ it := ⟨_, rfl⟩
        rw [← hrest] at N10
        (try k_fold)
        k_sweep
        k_steps
        have hits : its.size ≤ 16384 := by rw [q3]; exact Nat.le_trans (Nat.succ_le_succ (Nat.le_trans (Nat.le_of_eq q4.len.2) (Nat.le_trans (List.length_take_le' _ _) (Nat.le_trans (Nat.le_of_eq hcl) hks)))) (by decide)
        unfold Hold
        refine append_head (by assumption) (by assumption) ?_ hits (fun h8 F8 N8 => ?_)
        · refine List.forall_mem_cons.mpr ⟨D9 _ (.head _) _ (.head _), List.forall_mem_cons.mpr ⟨Nat.ne_of_lt l1.1, List.forall_mem_cons.mpr ⟨Nat.ne_of_lt l1.2.1, ?_⟩⟩⟩
          rw [hrest]
          intro p hp
          rcases List.mem_append.mp hp with hp | hp
          · rcases List.mem_append.mp hp with hp | hp
            · exact o2 p hp
            · exact o3 p hp
          · exact hA p hp _ (.head _)
        k_steps
        refine TurnS.next (⟨en, _, ds ++ [.tabT l9], vals ++ [.ref Dd], ((Dd, o9) :: ks9) ++ own, its.push (.ref Dd), n + 1, st9, sy9⟩ : RiS) (by assumption) (by assumption) ?hN o4 ?hI (List.forall_mem_cons.mpr ⟨by rfl, fun _ h => nomatch h⟩) (by walk_at "mine same")
        case hN =>
          rw [hrest]
          exact mem_nextT
        case hI =>
          (try dsimp only)
          refine ⟨by walk_at "mine om", f9.2.2, by rw [q3]; simp, ?_, P9.more (by walk_at "mine om"), SymSt.le_trans q5' le9, o1, o2, o3, ?_⟩
          · rw [take_succ_of hki']; exact (q4.le le9).snoc (.T l9 f9.1) (.tabT Dd o9 lo9 x9)
          · exact ops_next hki' hjl (opS_T' r9) q9
      · intro e9 h9 tk9 T9
        k_steps
        unfold Hold
        refine' thrown_up (s := ⟨hh, gn, dr, 0, os⟩) rfl ?k2 ?k3 ?k4 ?k5 T9 ?_ ?k9
        case k2 => assumption
        case k3 => assumption
        case k4 => assumption
        case k5 => exact fun p hp => List.mem_append.mpr (.inr hp)
        case k9 => intro h'; exact hthr _ _ _
        intro Bh hB hX
        refine SyExc.upS (by assumption) (by assumption) N3 (fun p hp => List.mem_append.mpr (.inr hp)) hX (fun q => ?_) q5' (c' := c + i * (2 * ws.length + 2) + ws.length) (by walk_at "mine om")
        exact ins_none (ops_none hki' hjl (opS_T q) q9)
    by_cases hk85 : k = 85
    · subst hk85
      rw [show (⟨#[85]⟩ : Str) = Str.ofString "U" from rfl] at F2
      k_steps
      refine' Spec.useOh (R := (PL, W.listOf its n) :: (own ++ it)) (read_table_U _ _ _ _ ⟨as, ad, a1, a2, a3, a4, k1, k2, k3, k4⟩ st2 (c + i * (2 * ws.length + 2)) sy2 wl vs ws j _ _ (by walk_at "mine om") hz hq3 (fun j' hj' => hwo j' (by walk_at "mine om"))) (fun _ _ _ z => z) ?k1 ?k2 ?k3 N3 ?k5 ?kK ?kd ?ku ?kp hoff ?_ ?_
      case k1 => k_asm
      case k2 => k_asm
      case k3 => k_asm
      case k5 => k_asm
      case kK => first | exact rfl | assumption
      case kd => ktr_room
      case ku => ktr_units
      case kp => exact ⟨q5, by walk_at "mine om", let ⟨o, ho, r⟩ := hl; ⟨o, Fr.keep (by assumption) _ _ ho, r⟩, ‹StrsAre _ _›⟩
      · intro v9 h9 tk9 own9 st9 sy9 qq P9 F9 N9 O9 D9 S9
        refine let_goal ?_
        intro gl_P
        obtain ⟨tp, Dd, o9, l9, en, t9, r9, e9, eo9, lo9, x9, le9⟩ := qq
        dsimp only [gl_P]
        clear gl_P
        subst e9
        subst eo9
        refine let_goal ?_
        intro gl_P
        obtain ⟨o1, o2, o3, o4⟩ := turn_offs (own9 := [(Dd, o9)]) hA (fun q hq p hp => D9 q hq p (.tail _ hp)) O9 q6 q7 (fun q hq => S9 q (.tail _ hq))
        dsimp only [gl_P]
        clear gl_P
        have f9 := tabS_facts r9
        have N10 := news_sub N9 (mem_turnT (w := w) (a := ⟨as, ad, a1, a2, a3, a4, k1, k2, k3, k4⟩) (P := (PL, W.listOf its n)) (own := own) (own9 := [(Dd, o9)]) (it := it))
        clear N9 N3 N2
        dsimp only [symI, symJ] at N10
        obtain ⟨rest, hrest⟩ : ∃ r, r = (([(Dd, o9)] ++ own) ++ sy9) ++ it := ⟨_, rfl⟩
        rw [← hrest] at N10
        (try k_fold)
        k_sweep
        k_steps
        have hits : its.size ≤ 16384 := by rw [q3]; exact Nat.le_trans (Nat.succ_le_succ (Nat.le_trans (Nat.le_of_eq q4.len.2) (Nat.le_trans (List.length_take_le' _ _) (Nat.le_trans (Nat.le_of_eq hcl) hks)))) (by decide)
        unfold Hold
        refine append_head (by assumption) (by assumption) ?_ hits (fun h8 F8 N8 => ?_)
        · refine List.forall_mem_cons.mpr ⟨D9 _ (.head _) _ (.head _), List.forall_mem_cons.mpr ⟨Nat.ne_of_lt l1.1, List.forall_mem_cons.mpr ⟨Nat.ne_of_lt l1.2.1, ?_⟩⟩⟩
          rw [hrest]
          intro p hp
          rcases List.mem_append.mp hp with hp | hp
          · rcases List.mem_append.mp hp with hp | hp
            · exact o2 p hp
            · exact o3 p hp
          · exact hA p hp _ (.head _)
        k_steps
        refine TurnS.next (⟨en, _, ds ++ [.tabU l9], vals ++ [.ref Dd], [(Dd, o9)] ++ own, its.push (.ref Dd), n + 1, st9, sy9⟩ : RiS) (by assumption) (by assumption) ?hN o4 ?hI (List.forall_mem_cons.mpr ⟨by rfl, fun _ h => nomatch h⟩) (by walk_at "mine same")
        case hN =>
          rw [hrest]
          exact mem_nextT
        case hI =>
          (try dsimp only)
          refine ⟨by walk_at "mine om", f9.2.2, by rw [q3]; simp, ?_, P9.more (by walk_at "mine om"), SymSt.le_trans q5' le9, o1, o2, o3, ?_⟩
          · rw [take_succ_of hki']; exact (q4.le le9).snoc (.U l9 f9.1) (.tabU Dd o9 lo9 x9)
          · exact ops_next hki' hjl (opS_U' r9) q9
      · intro e9 h9 tk9 T9
        k_steps
        unfold Hold
        refine' thrown_up (s := ⟨hh, gn, dr, 0, os⟩) rfl ?k2 ?k3 ?k4 ?k5 T9 ?_ ?k9
        case k2 => assumption
        case k3 => assumption
        case k4 => assumption
        case k5 => exact fun p hp => List.mem_append.mpr (.inr hp)
        case k9 => intro h'; exact hthr _ _ _
        intro Bh hB hX
        refine SyExc.upS (by assumption) (by assumption) N3 (fun p hp => List.mem_append.mpr (.inr hp)) hX (fun q => ?_) q5' (c' := c + i * (2 * ws.length + 2) + 2 * ws.length) (by walk_at "mine om")
        exact ins_none (ops_none hki' hjl (opS_U q) q9)
    · have hkT : ((⟨#[k]⟩ : Str) == Str.ofString "T") = false := code_ne hk84
      have hkU : ((⟨#[k]⟩ : Str) == Str.ofString "U") = false := code_ne hk85
      have hk7 : k ∈ [82, 88, 89, 67, 70, 78, 76] := (by decide : ∀ k ∈ kindL, k ≠ 84 → k ≠ 85 → k ∈ [82, 88, 89, 67, 70, 78, 76]) k hkL hk84 hk85
      have hwj := hww j q1 (by walk_at "mine om")
      k_steps
      refine' Spec.useOh (R := (PL, W.listOf its n) :: (own ++ it)) (read_operand_spec _ _ _ _ ⟨as, ad, a1, a2, a3, a4, k1, k2, k3, k4⟩ st2 (c + i * (2 * ws.length + 2)) sy2 _ _ _ _ hwj) (fun _ _ _ z => z) ?k1 ?k2 ?k3 N3 ?k5 ?kK ?kd ?ku ?kp hoff ?_ ?_
      case k1 => k_asm
      case k2 => k_asm
      case k3 => k_asm
      case k5 => k_asm
      case kK => first | exact rfl | assumption
      case kd => ktr_room
      case ku => ktr_units
      case kp => exact ⟨q5, by walk_at "mine om"⟩
      · intro v9 h9 tk9 own9 st9 sy9 qq P9 F9 N9 O9 D9 S9
        refine let_goal ?_
        intro gl_P
        obtain ⟨d9, r9, x9, le9⟩ := qq
        obtain ⟨o1, o2, o3, o4⟩ := turn_offs (own9 := own9) hA D9 O9 q6 q7 S9
        dsimp only [gl_P]
        clear gl_P
        have N10 := news_sub N9 (mem_turnO (w := w) (a := ⟨as, ad, a1, a2, a3, a4, k1, k2, k3, k4⟩) (P := (PL, W.listOf its n)) (own := own) (own9 := own9) (it := it))
        clear N9 N3 N2
        dsimp only [symI, symJ] at N10
        obtain ⟨rest, hrest⟩ : ∃ r, r = ((own9 ++ own) ++ sy9) ++ it := ⟨_, rfl⟩
        rw [← hrest] at N10
        (try k_fold)
        k_sweep
        k_steps
        have hits : its.size ≤ 16384 := by rw [q3]; exact Nat.le_trans (Nat.succ_le_succ (Nat.le_trans (Nat.le_of_eq q4.len.2) (Nat.le_trans (List.length_take_le' _ _) (Nat.le_trans (Nat.le_of_eq hcl) hks)))) (by decide)
        unfold Hold
        refine append_head (by assumption) (by assumption) ?_ hits (fun h8 F8 N8 => ?_)
        · refine List.forall_mem_cons.mpr ⟨Nat.ne_of_lt l1.1, List.forall_mem_cons.mpr ⟨Nat.ne_of_lt l1.2.1, ?_⟩⟩
          rw [hrest]
          intro p hp
          rcases List.mem_append.mp hp with hp | hp
          · rcases List.mem_append.mp hp with hp | hp
            · exact o2 p hp
            · exact o3 p hp
          · exact hA p hp _ (.head _)
        k_steps
        refine TurnS.next (⟨j + 1, _, ds ++ [d9], vals ++ [v9], own9 ++ own, its.push v9, n + 1, st9, sy9⟩ : RiS) (by assumption) (by assumption) ?hN o4 ?hI (List.forall_mem_cons.mpr ⟨by rfl, fun _ h => nomatch h⟩) (by walk_at "mine same")
        case hN =>
          rw [hrest]
          exact fun p hp => hp
        case hI =>
          (try dsimp only)
          refine ⟨by walk_at "mine om", by walk_at "mine om", by rw [q3]; simp, ?_, P9.more (by walk_at "mine om"), SymSt.le_trans q5' le9, o1, o2, o3, ?_⟩
          · rw [take_succ_of hki']; exact (q4.le le9).snoc (readS_fits hk7 r9) x9
          · exact ops_next hki' hjl (opS_O' hk84 hk85 r9) q9
      · intro e9 h9 tk9 T9
        k_steps
        unfold Hold
        refine' thrown_up (s := ⟨hh, gn, dr, 0, os⟩) rfl ?k2 ?k3 ?k4 ?k5 T9 ?_ ?k9
        case k2 => assumption
        case k3 => assumption
        case k4 => assumption
        case k5 => exact fun p hp => List.mem_append.mpr (.inr hp)
        case k9 => intro h'; exact hthr _ _ _
        intro Bh hB hX
        refine SyExc.upS (by assumption) (by assumption) N3 (fun p hp => List.mem_append.mpr (.inr hp)) hX (fun q => ?_) q5' (c' := c + i * (2 * ws.length + 2) + 2) (by walk_at "mine om")
        exact ins_none (ops_none hki' hjl (opS_O hk84 hk85 q) q9)
  case done =>
    rintro ⟨j, tj, ds, vals, own, its, n, st2, sy2⟩ uu h2 tk2 hI0 F2 N2
    with_reducible refine and10 hI0 fun q1 q2 q3 q4 q5 q5' q6 q7 q8 q9 => ?_
    clear hI0
    (try dsimp only at *)
    clear lF' lN
    have q4' : OpsV w st2 ks.cps.toList ds vals own := by
      have := q4
      rw [List.take_of_length_le (by first | walk_at "mine mem1" | simp)] at this; exact this
    have hK3 : ks.cps.size * (2 * ws.length + 2) ≤ 10 * (2 * ws.length + 2) := Nat.mul_le_mul_right _ hks
    k_steps
    · walk_at "mine thrown"
      intro Bh hB _
      refine SyExc.newN (sy' := sy2) (by assumption) (by assumption) mem_symks hB ?_ q5' q5 (by walk_at "mine om")
      exact ins_over (ops_end (by first | walk_at "mine mem1" | simp) q9) (by walk_at "mine om")
    · have hits : its.size ≤ 16384 := by rw [q3]; exact Nat.le_trans (Nat.succ_le_succ (Nat.le_trans (Nat.le_of_eq q4.len.2) (Nat.le_trans (List.length_take_le' _ _) (Nat.le_trans (Nat.le_of_eq hcl) hks)))) (by decide)
      unfold Hold
      refine kde_tupleOf (zs := Value.str (ws.getD 0 Str.empty) tw :: vals) (by assumption) N2 ⟨_, (N2 _ (.head _)).1, rfl, n, rfl⟩ hits (by rw [q3]) (fun Tp h8 F8 N8 lt8 => ?_)
      clear N2
      k_steps
      rename News _ _ _ _ => N7
      refine' Spec.useC (check_row_ok _ _ _ _ st2 tb Tp D _ ks tw vals ds own hlk hnm hks q4') ?k1 ?k2 ?k3 ?k4 ?k5 ?kK ?kd ?ku ?kp ?_ ?_
      case k1 => k_asm
      case k2 => k_asm
      case k3 => k_asm
      case k4 => exact N7
      case k5 => k_asm
      case kK => first | exact rfl | assumption
      case kd => ktr_room
      case ku => ktr_units
      case kp => exact ⟨FormsAt.keep hT (by assumption), isTup_of (N7 _ (.head _)).1, fun q hq => (N7 _ (.tail _ (.tail _ (.tail _ (.tail _ (List.mem_append.mpr (.inl hq))))))).1⟩
      · intro h9 tk9 hok K9 F9 N9
        (try k_fold)
        (try k_sweep)
        k_steps
        refine hret _ _ _ (keeps_of (h := hh) (by assumption) (by assumption)) ?_
        refine SyPostO.mk ((Tp, _) :: own) (by assumption) (news_sub (by assumption) mem_fin) q5 (by walk_at "mine om") ?_ ?_
        rotate_left
        · exact List.forall_mem_cons.mpr ⟨fun p hp => Nat.ne_of_lt (lt8 p (mem_symks p hp)), q6⟩
        exact ⟨Tp, ds, vals, own, tw, ins_ok (ops_end (by first | walk_at "mine mem1" | simp) q9) (by walk_at "mine om") hok, rfl, rfl, q4', q5'⟩
      · intro e9 h9 tk9 T9
        k_steps
        unfold Hold
        refine' thrown_up (s := ⟨hh, gn, dr, 0, os⟩) rfl ?k2 ?k3 ?k4 ?k5 T9 ?_ ?k9
        case k2 => assumption
        case k3 => assumption
        case k4 => assumption
        case k5 => exact List.forall_mem_nil _
        case k9 => intro h'; exact hthr _ _ _
        intro Bh hB hX
        refine SyExc.upN (sy' := sy2) (by assumption) (by assumption) (by assumption) mem_symT hB ?_ q5' q5 (by walk_at "mine om")
        exact ins_bad (ops_end (by first | walk_at "mine mem1" | simp) q9) hX
end
theorem off_RI2 : True := by
  w_top off
  trivial
section
theorem notin_lacks {w : World} {A : Around} {E : Value → Shared → Prop} {s : Shared} {t : Addr} {Q : Value → Shared → Prop} {D : List (PyData × PyData)} {nm : Str} {u : Tok} (T : FormsAt t D w s.heap) (hl : (PySem.Spec.lookup (.str nm) D).isSome = false) (h : Q (.bool true) { s with toks := s.toks + 1 }) : wpAny (model PG w) A (compareOp .NotIn (.str nm u) (.ref t)) Q E s :=
  notin_forms T (by rw [hl]; exact h)
theorem words_J34 : True := by
  k_with "J34 compareOp NotIn str ref" => (k_here; k_dflt (refine notin_lacks (FormsAt.keep (by assumption) (by assumption)) (by assumption) ?_))
  trivial
local macro_rules | `(tactic| walk_at $s) => fwd "J34 " s
local macro_rules | `(tactic| walk_at $s) => Lean.Macro.throwUnsupported
theorem read_instruction_lacks (w mean mg mb) (a : SymA) (st : SymSt) (c : Nat) (sy : List (Addr × Obj)) (wl tb : Addr) (vs : Array Value) (ws : List Str) (D : List (PyData × PyData)) (hlk : (PySem.Spec.lookup (.str (ws.getD 0 Str.empty)) D).isSome = false) (hnm : (ws.getD 0 Str.empty).length ≤ 30) (h0 : 0 < ws.length) (hz : ws.length ≤ 200) (hq : wl ∉ (symR w a sy).map (·.1)) (hqt : tb ∉ (symR w a sy).map (·.1)) (RR : Value → List (Addr × Obj) → SymSt → Prop) :
    Spec w mean mg mb 383 [.ref a.s, .ref wl, .ref tb] (symR w a sy) 24 440 (fun h => SyP w a st c sy ∧ h.IsList wl vs ∧ StrsAre vs.toList ws ∧ FormsAt tb D w h) (SyPostO w a c sy RR) (SyExc w a st c sy True) := by
  obtain ⟨as, ad, a1, a2, a3, a4, k1, k2, k3, k4⟩ := a
  refine Spec.of ?_
  intro dp un gd cn cs a ccd cl outer A₀ base h₀ L m hh gn dr tk os Q E B F X N T hk hd hu hpre hret hthr
  have hB : Bind [(Str.ofString "symbols", Value.ref as), (Str.ofString "words", Value.ref wl), (Str.ofString "table", Value.ref tb)] := .is
  refine let_goal ?_
  intro gl_P
  obtain ⟨P, hl0, hS, hT0⟩ := hpre
  dsimp only [gl_P]
  clear gl_P
  dsimp only [symR, symI, symJ] at *
  walk_at "mine enter"
  have hl : Heap.IsList _ wl vs := let ⟨o, ho, r⟩ := hl0; ⟨o, (‹Keeps hh _ _› : Keeps hh _ _) _ _ ho hq, r⟩
  have hT := forms_keeps (by assumption) hT0 hqt
  have hsz : vs.toList.length = ws.length := hS.length
  have hlk0 : (PySem.Spec.lookup (.str (ws.getD (Int.toNat 0) Str.empty)) D).isSome = false := hlk
  have hnm0 : (ws.getD (Int.toNat 0) Str.empty).length ≤ 30 := hnm
  k_steps
  walk_at "mine thrown"
  intro Bh hB _
  exact SyExc.newN (sy' := sy) (by assumption) (by assumption) (fun p hp => hp) hB trivial st.le_refl P (Nat.le_refl _)
end
theorem off_FX1 : True := by
  w_top off
  trivial
section
noncomputable def atomsL : List Str := [Str.ofString "[]", Str.ofString ".", Str.ofString "{}", Str.ofString "-", Str.ofString "+", Str.ofString "*", Str.ofString "/", Str.ofString ",", Str.ofString "|", Str.ofString ";", Str.ofString "->", Str.ofString "\\+", Str.ofString ":-", Str.ofString "?-", Str.ofString "-->", Str.ofString "!", Str.ofString "true", Str.ofString "fail", Str.ofString "false", Str.ofString "call", Str.ofString "=", Str.ofString "^", Str.ofString "error", Str.ofString "", Str.ofString "end_of_file", Str.ofString "system", Str.ofString "$VAR", Str.ofString "catch", Str.ofString "throw"]
inductive FunsIn (fz : List (Addr × Obj)) : List Value → Nat → Prop
  | nil : FunsIn fz [] 0
  | cons {q : Addr} {x : Str} {j : Int} {t1 t2 : Tok} {vs : List Value} {n : Nat} : (q, regObj x j t1 t2) ∈ fz → FunsIn fz vs n → FunsIn fz (.ref q :: vs) (n + 1)
theorem FunsIn.get {fz : List (Addr × Obj)} {vs : List Value} {n i : Nat} {v : Value} (r : FunsIn fz vs n) (h : vs[i]? = some v) : ∃ q x j t1 t2, v = .ref q ∧ (q, regObj x j t1 t2) ∈ fz := by
  induction r generalizing i with
  | nil => exact nomatch (h : none = some v)
  | cons m _ ih =>
    cases i with
    | zero => exact ⟨_, _, _, _, _, (Option.some.inj h).symm, m⟩
    | succ i => exact ih h
theorem FunsIn.sub {fz fz' : List (Addr × Obj)} (hs : ∀ p ∈ fz, p ∈ fz') {vs : List Value} {n : Nat} (h : FunsIn fz vs n) : FunsIn fz' vs n := by
  induction h with
  | nil => exact .nil
  | cons m _ ih => exact .cons (hs _ m) ih
theorem FunsIn.length {fz : List (Addr × Obj)} : ∀ {vs : List Value} {n : Nat}, FunsIn fz vs n → vs.length = n := by
  intro vs n x
  induction x with
  | nil => rfl
  | cons _ r ih => exact congrArg Nat.succ ih
theorem strs_of (g : Heap) : ∀ {vs : List Value} {l : List Str}, DataAre vs (l.map PyData.str) → StrsAre vs l := by
  intro vs l h
  induction l generalizing vs with
  | nil => cases h; exact .nil
  | cons x l ih =>
    cases h with
    | cons a r =>
    obtain ⟨t, rfl⟩ := datum_str g a
    exact .cons _ _ (ih r)
section
theorem words_J35 : True := by
  k_with "J35 spliced" => refine Hold.in ?_
  trivial
local macro_rules | `(tactic| walk_at $s) => fwd "J35 " s
theorem fixed_atoms_spec (w mean mg mb) : Spec w mean mg mb 61 [] [] 4 60 NoPre (fun h h' v => ∃ p vs, v = .ref p ∧ StrsAre vs atomsL ∧ Led h h' [] [(p, ({ cls := .type "tuple", data := .seq vs.toArray } : Obj))]) NoExc := by
  refine Spec.of ?_
  intro dp un gd cn cs a ccd cl outer A₀ base h₀ L m hh gn dr tk os Q E B F X N T hk hd hu hpre hret hthr
  have hB : Bind [] := .is
  walk_at "mine enter"
  k_steps
  unfold Hold
  with_reducible refine spliced_lits _ (atomsL.map PyData.str) _ _ ?hl ?hi
  case hl => exact rfl
  case hi =>
    intro vs tk9 hvs
    have hS := strs_of hh hvs
    have hlen : vs.length = 29 := hS.length
    clear hvs
    (try dsimp only)
    k_steps
    exact hret _ _ _ (keeps_of (h := hh) (by assumption) (by assumption)) ⟨_, vs, rfl, hS, led_of (by assumption) (by assumption)⟩
end
noncomputable def funsD : List (Str × Int) := [(".", 2), (",", 2), (";", 2), ("->", 2), ("\\+", 1), (":-", 2), (":-", 1), ("?-", 1), ("-->", 2), ("{}", 1), ("=", 2), ("^", 2), ("-", 1), ("-", 2), ("+", 2), ("/", 2), ("error", 2), ("$VAR", 1), ("catch", 3), ("throw", 1), ("!", 0), ("true", 0), ("fail", 0), ("false", 0), ("call", 1), ("call", 2), ("call", 3), ("call", 4), ("call", 5), ("call", 6), ("call", 7), ("call", 8)].map fun p => (Str.ofString p.1, p.2)
theorem funs_of (g : Heap) {own : List (Addr × Obj)} {vs : List Value} {l : List (Str × Int)} (h : TupsIn own vs (l.map fun p => [PyData.str p.1, PyData.int p.2])) : FunsIn own vs l.length := by
  induction l generalizing vs with
  | nil => cases h; exact .nil
  | cons p l ih =>
    cases h with
    | cons m d r =>
      obtain ⟨t1, t2, rfl⟩ := pair_SI g d
      exact .cons m (ih r)
theorem spliced_funs {w : World} {A : Around} {E : Value → Shared → Prop} {env : Env} {h₀ : Heap} {L : Addr} {m : Str → Option Value} {pos : Pos} {elts : List PySem.Expr} {s : Shared} {news : List (Addr × Obj)} {Q : List Value → Shared → Prop} (l : List (Str × Int)) (hl : tupsOf elts = some (l.map fun p => [PyData.str p.1, PyData.int p.2])) (F : Fr h₀ L s.heap m) (N : News h₀ L s.heap news)
    (h : ∀ vs own h' tk, Fr h₀ L h' m → News h₀ L h' (own ++ news) → FunsIn own vs l.length → Q vs { s with heap := h', toks := tk }) : wpAny (model PG w) A (spliced (backTo pos (starEach elts env))) Q E s :=
  spliced_tups elts _ s news Q hl F N fun vs own h' tk F' N' T _ => h vs own h' tk F' N' (funs_of s.heap T)
section
local macro_rules | `(tactic| walk_at $s) => fwd "J35 " s
theorem fixed_functors_spec (w mean mg mb) : Spec w mean mg mb 68 [] [] 4 60 NoPre (fun h h' v => ∃ p vs own, v = .ref p ∧ FunsIn own vs 32 ∧ Led h h' [] ((p, ({ cls := .type "tuple", data := .seq vs.toArray } : Obj)) :: own)) NoExc := by
  refine Spec.of ?_
  intro dp un gd cn cs a ccd cl outer A₀ base h₀ L m hh gn dr tk os Q E B F X N T hk hd hu hpre hret hthr
  have hB : Bind [] := .is
  walk_at "mine enter"
  k_steps
  unfold Hold
  rename Fr _ _ _ _ => lF9
  rename News _ _ _ _ => lN9
  with_reducible refine spliced_funs funsD ?hl lF9 lN9 ?hi
  case hl => exact rfl
  case hi =>
    intro vs own h9 tk9 F9 N9 hF
    replace hF : FunsIn own vs 32 := hF
    clear lF9 lN9
    have hlen := hF.length
    rw [List.append_nil] at N9
    (try dsimp only)
    k_steps
    exact hret _ _ _ (keeps_of (h := hh) (by assumption) (by assumption)) ⟨_, vs, own, rfl, hF, led_of (by assumption) (by assumption)⟩
end
theorem led_new {h₀ h h' : Heap} {L : Addr} {m : Str → Option Value} {R new : List (Addr × Obj)} (F : Fr h₀ L h m) (N : News h₀ L h R) (k : Keeps h h' []) (x : Led h h' [] new) : News h₀ L h' (new ++ R) ∧ ∀ q ∈ R, ∀ p ∈ new, @Ne Nat p.1 q.1 := by
  obtain ⟨n, o⟩ := x.both (R := R) F (by simpa using N) k (fun _ _ _ h => nomatch h)
  exact ⟨news_sub n fun p hp => List.mem_append.mpr (List.mem_append.mp hp).symm, o⟩
section
variable {w : World} {mean : ExcName → Option Value} {mg mb : Str → Option Value} {f : Addr} {vs : List Value} {dn un' : Nat} {dp un : Nat} {gd : Option (List Code)} {cn : Str} {cs : Scope} {ca : Addr} {ccd : Value} {cl : List (Str × Addr)} {outer : List Env} {A₀ : Around} {base h₀ : Heap} {L : Addr} {m : Str → Option Value} {Q E : Value → Shared → Prop} {R : List (Addr × Obj)}
theorem useNew {pre : Heap → Prop} {PV : Value → List (Addr × Obj) → Prop} {h : Heap} {gn : Array GenState} {dr : Drawn} {tk : Nat} {os : OsState} (S : Spec w mean mg mb f vs [] dn un' pre (fun h h' v => ∃ new, PV v new ∧ Led h h' [] new) NoExc) (B : Below A₀ base outer h₀) (F : Fr h₀ L h m) (X : (Mine.hd.heap_1 w.params).In h₀) (N : News h₀ L h R) (T : Top Mine.PV LO mean mg mb h₀) (hk : cs.kind = .function)
    (hd : dp + dn < recursionLimit) (hu : un + un' < cLine) (hp : pre h)
    (ret : ∀ v new h' tk', PV v new → Fr h₀ L h' m → News h₀ L h' (new ++ R) → (∀ q ∈ R, ∀ p ∈ new, @Ne Nat p.1 q.1) → Q v ⟨h', gn, dr, tk', os⟩) :
    wpAny (model PG w) (ktrTop dp un gd cn cs L ca ccd cl outer) (call (.ref f) vs) Q E ⟨h, gn, dr, tk, os⟩ :=
  S.use B F X N T hk hd hu (fun _ h => nomatch h) hp (fun v h' tk' k F' po => by
    refine let_goal ?_
    intro gl_P
    obtain ⟨new, hv, l⟩ := po
    obtain ⟨n, o⟩ := led_new F N k l
    dsimp only [gl_P]
    clear gl_P
    exact ret v new h' tk' hv F' n o) fun _ _ _ x => x.no
end
theorem Spec.post_mono {w : World} {mean : ExcName → Option Value} {mg mb : Str → Option Value} {f : Addr} {vs : List Value} {mu : List (Addr × Obj)} {dn un' : Nat} {pre : Heap → Prop} {post post' : Heap → Heap → Value → Prop} {exc : Heap → Heap → Prop} (S : Spec w mean mg mb f vs mu dn un' pre post exc) (h : ∀ h h' v, post h h' v → post' h h' v) : Spec w mean mg mb f vs mu dn un' pre post' exc := by
  intro dp un gd cn cs a ccd cl outer A₀ base h₀ L m s Q E B F X N T hk hd hu hp hr ht
  exact S dp un gd cn cs a ccd cl outer A₀ base h₀ L m s Q E B F X N T hk hd hu hp (fun v h' tk' k po => hr v h' tk' k (h _ _ _ po)) ht
noncomputable abbrev tupO (vs : List Value) : Obj := { cls := .type "tuple", data := .seq vs.toArray }
theorem fixed_atoms_new (w mean mg mb) : Spec w mean mg mb 61 [] [] 4 60 NoPre (fun h h' v => ∃ new, (∃ p vs, v = .ref p ∧ StrsAre vs atomsL ∧ new = [(p, tupO vs)]) ∧ Led h h' [] new) NoExc :=
  (fixed_atoms_spec w mean mg mb).post_mono fun _ _ _ x => by obtain ⟨p, vs, e, h1, h2⟩ := x; exact ⟨_, ⟨p, vs, e, h1, rfl⟩, h2⟩
theorem fixed_functors_new (w mean mg mb) : Spec w mean mg mb 68 [] [] 4 60 NoPre (fun h h' v => ∃ new, (∃ p vs own, v = .ref p ∧ FunsIn own vs 32 ∧ new = (p, tupO vs) :: own) ∧ Led h h' [] new) NoExc :=
  (fixed_functors_spec w mean mg mb).post_mono fun _ _ _ x => by obtain ⟨p, vs, own, e, h1, h2⟩ := x; exact ⟨_, ⟨p, vs, own, e, h1, rfl⟩, h2⟩
structure SiS where
  st : SymSt
  sy : List (Addr × Obj)
theorem atomsL_len : atomsL.length = 29 := rfl
theorem atomsL_short : ∀ x ∈ atomsL, x.length ≤ 20 := by decide +kernel
theorem FunsIn.clean {g h : Heap} {L p : Addr} {N0 : List (Addr × Obj)} {own : List (Addr × Obj)} {ws : List Value} (N : News g L h N0) (hp : (p, tupO ws) ∈ N0) (ho : ∀ q ∈ own, q ∈ N0) (hz : ws.length = 32) : ∀ {vs : List Value} {n : Nat}, FunsIn own vs n → FunsIn (own.filter fun q => q.1 != p) vs n
  | _, _, .nil => .nil
  | _, _, .cons (q := q) m r => by
    refine .cons (List.mem_filter.mpr ⟨m, ?_⟩) (FunsIn.clean N hp ho hz r)
    rw [bne_iff_ne]
    intro e
    have h1 := (N _ hp).1
    have h2 := (N _ (ho _ m)).1
    dsimp only at h1 h2 e
    rw [e, h1] at h2
    have h3 := congrArg (fun o : Obj => match o.data with | .seq v _ => v.size | _ => 0) (Option.some.inj h2)
    simp [hz] at h3
end
section
theorem words_J36 : True := by
  k_with "J36 call builtin:list.append" => refine Hold.in ?_
  k_with "J36 exec For Name Subscript cons nil" => refine Hold.in ?_
  trivial
local macro_rules | `(tactic| walk_at $s) => fwd "J36 " s
theorem off_LF1 : True := by
  w_top off
  trivial
local macro_rules | `(tactic| walk_at $s) => Lean.Macro.throwUnsupported
theorem law_figures_spec (w mean mg mb) (l : Addr) (us : List Value) (ns : List Int) (hI : IntsAre us ns) (hz : us.length ≤ 63) : Spec w mean mg mb 390 [.ref l] [] 8 100 (fun h => h.IsList l us.toArray) (fun h h' v => ∃ p us' n, v = .ref p ∧ FigL us' ∧ Led h h' [] [(p, W.listOf us'.toArray n)]) NoExc := by
  refine Spec.of ?_
  intro dp un gd cn cs a ccd cl outer A₀ base h₀ L m hh gn dr tk os Q E B F X N T hk hd hu hpre hret hthr
  have hB : Bind [(Str.ofString "script", Value.ref l)] := .is
  walk_at "mine enter"
  have hl : Heap.IsList _ l us.toArray := let ⟨o, ho, r⟩ := hpre; ⟨o, (‹Keeps hh _ _› : Keeps hh _ _) _ _ ho (by first | walk_at "mine mem1" | simp), r⟩
  k_steps
  walk_at "mine for"
  unfold Hold
  rename Fr _ _ _ _ => lF'
  rename News _ _ _ _ => lN'
  rename IntsAre _ (List.take 30 ns) => hI30
  rename (List.take 30 ns).length = _ => hC30
  have e1 := (lN' _ (.head _))
  have e2 := (lN' _ (.tail _ (.head _)))
  refine' list_s (σ := FgS) (fun q => [(_, W.listOf q.us.toArray q.n)]) (fun _ => []) [Str.ofString "whole", Str.ofString "turn"] (fun i q => Ints0 q.us (24 * i)) ⟨[], 0⟩ rfl ⟨_, e1.1, rfl, _, rfl⟩ e1.2.1 ?hlN lF' (news_sub lN' fun p hp => .tail _ hp) (fun _ h => nomatch h) ⟨[], .nil, List.forall_mem_nil _, Nat.zero_le _⟩ ?turn ?done
  case hlN => exact List.forall_mem_cons.mpr ⟨fun e => absurd e (Nat.ne_of_lt (by assumption)), fun _ h => nomatch h⟩
  case turn =>
    rintro i v ⟨vs, n⟩ uu h2 tk2 it hv hQ hA hl2 F2 N2
    (try dsimp only at *)
    clear lF' lN' e1 e2
    refine let_goal ?_
    intro gl_P
    obtain ⟨x, tx, hx, e⟩ := intsAre_at hI30 (by simpa using hv)
    dsimp only [gl_P]
    clear gl_P
    subst e
    have hi30 : i < 30 := by
      exact Nat.lt_of_lt_of_le (List.getElem?_eq_some_iff.mp hx).1 (List.length_take_le 30 ns)
    k_steps
    all_goals walk_at "mine for"
    all_goals
      unfold Hold
      rename IsRange _ _ _ _ _ _ _ _ => hrng
      rename Fr _ _ _ _ => lF9
      rename News _ _ _ _ => lN9
      refine' range_s (σ := FwS) (n := 24) (fun q => (_, W.listOf q.us.toArray q.n) :: it) (fun q => [(Str.ofString "whole", .int q.whole q.tw)]) [] (fun j q => Ints0 q.us (24 * i + j) ∧ 0 ≤ q.whole) ⟨vs, n, _, _⟩ rfl hrng small24 size24 lF9 lN9 ?hps ⟨hQ, ?hw⟩ ?turn2 ?done2
      case hps => exact List.forall_mem_cons.mpr ⟨by rfl, fun _ h => nomatch h⟩
      case hw => dsimp only; walk_at "mine om"
      case turn2 =>
        rintro j tj ⟨vs2, n2, whole, tw⟩ uu2 h3 tk3 it3 hj ⟨hQ3, hw3⟩ hA3 F3 N3
        (try dsimp only at *)
        clear lF9 lN9
        k_steps
        unfold Hold
        have hlen3 : vs2.toArray.size ≤ 16384 := by obtain ⟨_, _, _, h3⟩ := hQ3; exact Nat.le_trans h3 (Nat.le_trans (Nat.add_le_add (Nat.mul_le_mul_left 24 (Nat.le_of_lt hi30)) (Nat.le_of_lt hj)) (by decide))
        replace N3 : News _ _ _ ((_, W.listOf vs2.toArray n2) :: (it ++ it3)) := N3
        refine append_head (by assumption) N3 ?_ hlen3 (fun h8 F8 N8 => ?_)
        · intro p hp
          rcases List.mem_append.mp hp with hp | hp
          · exact hA p hp _ (.head _)
          · exact hA3 p hp _ (.head _)
        rw [List.push_toArray] at N8
        k_steps
        · obtain ⟨tv, N7⟩ : ∃ tv, News _ _ _ ((_, W.listOf (vs2 ++ [Value.int (whole.fmod 997) tv]).toArray (n2 + 1)) :: (it ++ it3)) := ⟨_, by assumption⟩
          refine TurnS.next (⟨vs2 ++ [.int (whole.fmod 997) tv], n2 + 1⟩ : FgS) (by assumption) N7 (fun p hp => ?_) hA ?_ (fun _ h => nomatch h) (by walk_at "mine same")
          · rcases List.mem_cons.mp hp with h | hp
            · exact h ▸ .head _
            · exact .tail _ (List.mem_append.mpr (.inl hp))
          · have := hQ3.snoc (x := whole.fmod 997) (t := tv) (Int.fmod_nonneg_of_pos _ (by decide))
            refine let_goal ?_
            intro gl_P
            obtain ⟨ns4, a4, b4, c4⟩ := this
            dsimp only [gl_P]
            clear gl_P
            exact ⟨ns4, a4, b4, Nat.le_trans c4 (Nat.add_le_add_left hj (24 * i))⟩
        · obtain ⟨tv, N7⟩ : ∃ tv, News _ _ _ ((_, W.listOf (vs2 ++ [Value.int (whole.fmod 997) tv]).toArray (n2 + 1)) :: (it ++ it3)) := ⟨_, by assumption⟩
          refine' TurnS.next (⟨vs2 ++ [.int (whole.fmod 997) tv], n2 + 1, whole.fdiv 997, _⟩ : FwS) (by assumption) N7 (fun p hp => hp) hA3 ⟨hQ3.snoc (Int.fmod_nonneg_of_pos _ (by decide)), Int.fdiv_nonneg hw3 (by decide)⟩ (List.forall_mem_cons.mpr ⟨by rfl, fun _ h => nomatch h⟩) (by walk_at "mine same")
      case done2 =>
        rintro ⟨vs2, n2, whole, tw⟩ uu2 h3 tk3 ⟨hQ3, hw3⟩ F3 N3
        (try dsimp only at *)
        clear lF9 lN9
        k_steps
        refine TurnS.next (⟨vs2, n2⟩ : FgS) (by assumption) (by assumption) (fun p hp => hp) hA ?_ (fun _ h => nomatch h) (by walk_at "mine same")
        exact hQ3
  case done =>
    rintro ⟨vs, n⟩ uu h2 tk2 hQ F2 N2
    (try dsimp only at *)
    clear lF' lN' e1 e2
    refine let_goal ?_
    intro gl_P
    obtain ⟨ns2, hI2, hn2, hz2⟩ := hQ
    dsimp only [gl_P]
    clear gl_P
    have hl1 := hI30.length
    have hl2 := hI2.length
    have hz3 : vs.length ≤ 720 := by
      exact Nat.le_trans hz2 (Nat.mul_le_mul_left 24 (Nat.le_trans (Nat.le_of_eq hl1) (List.length_take_le 30 ns)))
    have hn720 : ns2.length ≤ 720 := hl2 ▸ hz3
    k_steps
    rename News _ _ _ _ => N9
    rename IntsAre _ (List.take 90 ns2) => hI90
    have hl9 := hI90.length
    refine kl_reverse (by assumption) N9 rfl (.head (List.forall_mem_cons.mpr ⟨Nat.ne_of_lt (by assumption), fun _ h => nomatch h⟩)) ?_ (fun h8 F8 N8 => ?_)
    · rw [sizeLine_eq]; simp only [hl9, List.length_take]; exact Nat.le_trans (Nat.min_le_left _ _) (by decide)
    k_steps
    refine hret _ _ _ (keeps_of (h := hh) (by assumption) (by assumption)) ⟨_, _, 0, rfl, FigL.rev hI90 hn2, led_of (by assumption) (news_sub (by assumption) fun p hp => ?_)⟩
    rcases List.mem_cons.mp hp with h | hp
    · exact h ▸ .head _
    · cases hp
end
section
theorem words_J37 : True := by
  k_with "J37 call builtin:list.append" => refine Hold.in ?_
  k_with "J37 call ref" => ((with_reducible show wpAny _ _ (call (Value.ref 194) _) _ _ _); k_here; k_dflt (refine' Spec.useT (number_text_spec _ _ _ _ _ _ ?kx0_J37_1 ?kx1_J37_1 ?kx2_J37_1) ?k1_J37_1 ?k2_J37_1 ?k3_J37_1 ?k4_J37_1 ?k5_J37_1 ?kK_J37_1 ?kd_J37_1 ?ku_J37_1 ?kp_J37_1 ?_; (case kp_J37_1 => walk_at "mine held"); (case kx0_J37_1 => first | assumption | walk_at "mine om"); (case kx1_J37_1 => first | assumption | walk_at "mine om"); (case kx2_J37_1 => first | assumption | walk_at "mine om"); (case k1_J37_1 => k_asm); (case k2_J37_1 => k_asm); (case k3_J37_1 => k_asm); (case k4_J37_1 => k_asm); (case k5_J37_1 => k_asm); (case kK_J37_1 => first | exact rfl | assumption); (case kd_J37_1 => ktr_room); (case ku_J37_1 => ktr_units); intro t9_w h9_w tk9_w K9_w F9_w N9_w; (try k_fold); (try k_sweep)))
  trivial
local macro_rules | `(tactic| walk_at $s) => fwd "J37 " s
section
local macro_rules | `(tactic| walk_at $s) => fwd "J9 " s
theorem off_TW1 : True := by
  w_top off
  trivial
local macro_rules | `(tactic| walk_at $s) => Lean.Macro.throwUnsupported
theorem table_words_T (w mean mg mb) (a : SymA) (st : SymSt) (c : Nat) (sy : List (Addr × Obj)) (D : Addr) (u : Tok) (o : Obj) (l : List ((Int ⊕ Str) × Int)) (ks : List (Addr × Obj)) (low : (D == sysModules) = false) (hx : TabT w st o l ks) (hl : l.length ≤ 100) (hok : ∀ q ∈ l, EntTOk q) (hoff : ∀ q ∈ (D, o) :: ks, q.1 ∉ (symR w a sy).map (·.1)) :
    Spec w mean mg mb 327 [.ref a.s, .ref D, .str (Str.ofString "T") u] (symR w a sy) 12 180 (fun h => SyP w a st c sy ∧ c < 10000 ∧ Held ((D, o) :: ks) h) (SyPostO w a c sy (WordsV (Str.ofString "{" :: l.map entT ++ [Str.ofString "}"]) st)) NoExc := by
  obtain ⟨as, ad, a1, a2, a3, a4, k1, k2, k3, k4⟩ := a
  refine Spec.of ?_
  intro dp un gd cn cs a ccd cl outer A₀ base h₀ L m hh gn dr tk os Q E B F X N T hk hd hu hpre hret hthr
  have hB : Bind [(Str.ofString "symbols", Value.ref as), (Str.ofString "table", Value.ref D), (Str.ofString "kind", Value.str (Str.ofString "T") u)] := .is
  obtain ⟨P, hc, hH⟩ := hpre
  dsimp only [symR, symI, symJ] at *
  refine let_goal ?_
  intro gl_P
  obtain ⟨es, ep, xs, hxx, hda, he, hnd, hK⟩ := hx
  dsimp only [gl_P]
  clear gl_P
  walk_at "mine enter"
  have ho := (‹Keeps hh _ _› : Keeps hh _ _) _ _ (hH _ (.head _)) (hoff _ (.head _))
  have hks := fun q hq => (‹Keeps hh _ _› : Keeps hh _ _) _ _ (hH q (.tail _ hq)) (hoff q (.tail _ hq))
  have hcl := hxx.1
  k_steps
  walk_at "mine for"
  unfold Hold
  rename Fr _ _ _ _ => lF'
  rename News _ _ _ _ => lN'
  rename _ ∧ _ ∧ AllLt _ _ => l1
  obtain ⟨WL, hWL, _⟩ : ∃ x : Addr, x = _ ∧ News _ _ _ ((x, W.listOf _ _) :: _) := ⟨_, rfl, lN'⟩
  subst hWL
  refine' dict_s (σ := TwS) (es := es) (fun q => (WL, W.listOf q.its q.n) :: (as, instObj 155 ad) :: (ad, dictOf (symE w a1 a2 a3 a4 k1 k2 k3 k4) 4) :: q.sy) (fun _ => []) [Str.ofString "text"]
    (fun i q => StrsAre q.its.toList (Str.ofString "{" :: (l.take i).map entT) ∧ SyP w ⟨as, ad, a1, a2, a3, a4, k1, k2, k3, k4⟩ st c q.sy ∧ (∀ x ∈ q.sy, x.1 ≠ WL))
    ⟨_, _, sy⟩ rfl low ho hxx hda lF' lN' (fun _ h => nomatch h) ?hinv ?turn ?done
  case hinv => exact ⟨.cons _ _ .nil, P, AllLt.off l1.2.2⟩
  case turn =>
    rintro i e ⟨its, n, sy2⟩ uu h2 tk2 it hee hI0 hA F2 N2
    with_reducible refine and3 hI0 fun q1 q2 q3 => ?_
    clear hI0
    (try dsimp only at *)
    clear lF' lN'
    refine let_goal ?_
    intro gl_P
    obtain ⟨d, k, j, p, v, t, t1, t2, g1, g2, g3, g4, g5⟩ := tabT_item he hK hee
    dsimp only [gl_P]
    clear gl_P
    rw [g3] at F2
    have hql := hok _ (List.mem_of_getElem? g1)
    refine let_goal ?_
    intro gl_P
    obtain ⟨hcok, hclong, hnlo, hnhi, hndig, hnlen⟩ := hql
    dsimp only [gl_P]
    clear gl_P
    dsimp only at hcok hclong hnlo hnhi hndig hnlen
    k_steps
    have N3 := news_sub N2 (mem_tw (w := w) (a := ⟨as, ad, a1, a2, a3, a4, k1, k2, k3, k4⟩) (P := (WL, W.listOf its n)) (sy := sy2) (it := it))
    have hoff2 : ∀ q ∈ (WL, W.listOf its n) :: it, ∀ p ∈ symR w ⟨as, ad, a1, a2, a3, a4, k1, k2, k3, k4⟩ sy2, p.1 ≠ q.1 := by
      refine List.forall_mem_cons.mpr ⟨List.forall_mem_cons.mpr ⟨Nat.ne_of_lt l1.1, List.forall_mem_cons.mpr ⟨Nat.ne_of_lt l1.2.1, q3⟩⟩, fun q hq p hp => ?_⟩
      exact fun e => hA q hq p.1 (List.mem_map.mpr ⟨p, .tail _ hp, rfl⟩) e.symm
    have hp2 := off_frozen N3 (mu := symR w ⟨as, ad, a1, a2, a3, a4, k1, k2, k3, k4⟩ sy2) (fun p hp => List.mem_append.mpr (.inr hp)) (hks _ g4)
    refine' Spec.useOh (R := (WL, W.listOf its n) :: it) (constant_text_spec _ _ _ _ ⟨as, ad, a1, a2, a3, a4, k1, k2, k3, k4⟩ st c sy2 p k j t1 t2 d g5 hcok hp2) (fun _ _ _ z => SyPost.toO z) ?k1 ?k2 ?k3 N3 ?k5 ?kK ?kd ?ku ?kp hoff2 ?_ ?_
    case k1 => k_asm
    case k2 => k_asm
    case k3 => k_asm
    case k5 => k_asm
    case kK => first | exact rfl | assumption
    case kd => ktr_room
    case ku => ktr_units
    case kp => exact ⟨q2, hc, isTup_of (Fr.keep (by assumption) _ _ (hks _ g4))⟩
    · intro v9 h9 tk9 own9 st9 sy9 qq P9 F9 N9 O9 D9 S9
      refine let_goal ?_
      intro gl_P
      obtain ⟨eo9, ⟨t9, e9⟩, e8⟩ := qq
      dsimp only [gl_P]
      clear gl_P
      subst eo9
      subst e9
      subst e8
      have o4 := tw_off (w := w) (a := ⟨as, ad, a1, a2, a3, a4, k1, k2, k3, k4⟩) hA O9
      have N10 := news_sub N9 (mem_twb (w := w) (a := ⟨as, ad, a1, a2, a3, a4, k1, k2, k3, k4⟩) (P := (WL, W.listOf its n)) (it := it))
      clear N9 N3 N2
      dsimp only [symI, symJ] at N10
      obtain ⟨rest, hrest⟩ : ∃ r, r = sy9 ++ it := ⟨_, rfl⟩
      rw [← hrest] at N10
      (try k_fold)
      k_sweep
      k_steps
      unfold Hold
      refine tail_any (RawDict.typeIs (es := es) (ep := ep) ⟨o, Fr.keep (by assumption) _ _ ho, hxx, hda⟩) slot_dict_getitem.lookup (get_tabT (Fr.keep (by assumption) _ _ ho) hxx hda he hnd hK (fun q hq => Fr.keep (by assumption) _ _ (hks q hq)) g2 (by ktr_units) ?_) (by with_unfolding_all rfl)
      k_steps
      unfold Hold
      have hits : its.size ≤ 16384 := by rw [strsAre_size q1]; simp only [List.length_cons, List.length_map, List.length_take]; walk_at "mine om"
      refine append_head (by assumption) (by assumption) ?_ hits (fun h8 F8 N8 => ?_)
      · refine List.forall_mem_cons.mpr ⟨Nat.ne_of_lt l1.1, List.forall_mem_cons.mpr ⟨Nat.ne_of_lt l1.2.1, ?_⟩⟩
        rw [hrest]
        intro p hp
        rcases List.mem_append.mp hp with hp | hp
        · exact O9 p hp _ (.head _)
        · exact hA p hp _ (.head _)
      k_steps
      obtain ⟨tv, N7⟩ : ∃ tv, News _ _ _ ((WL, W.listOf (its.push (.str (entT (d, v)) tv)) (n + 1)) :: (as, instObj 155 ad) :: (ad, dictOf (symE w a1 a2 a3 a4 k1 k2 k3 k4) 4) :: rest) := ⟨_, by assumption⟩
      refine TurnS.next (⟨its.push (.str (entT (d, v)) tv), n + 1, sy9⟩ : TwS) (by assumption) N7 ?hN o4 ?hI (fun _ h => nomatch h) (by walk_at "mine same")
      case hN =>
        rw [hrest]
        exact fun p hp => hp
      case hI =>
        (try dsimp only)
        refine ⟨?_, P9, fun x hx => O9 x hx _ (.head _)⟩
        have e : l.take (i + 1) = l.take i ++ [(d, v)] := by rw [List.take_add_one, g1]; rfl
        rw [e, List.map_append, ← List.cons_append]
        exact strsAre_push q1
    · intro e9 h9 tk9 T9
      refine let_goal ?_
      intro gl_P
      obtain ⟨_, _, _, x9, _⟩ := T9
      dsimp only [gl_P]
      clear gl_P
      exact x9.elim
  case done =>
    rintro ⟨its, n, sy2⟩ uu h2 tk2 hI0 F2 N2
    with_reducible refine and3 hI0 fun q1 q2 q3 => ?_
    clear hI0
    (try dsimp only at *)
    clear lF' lN'
    k_steps
    unfold Hold
    have hits : its.size ≤ 16384 := by rw [strsAre_size q1]; simp only [List.length_cons, List.length_map, List.length_take]; walk_at "mine om"
    refine append_head (by assumption) (by assumption) ?_ hits (fun h8 F8 N8 => ?_)
    · exact List.forall_mem_cons.mpr ⟨Nat.ne_of_lt l1.1, List.forall_mem_cons.mpr ⟨Nat.ne_of_lt l1.2.1, q3⟩⟩
    k_steps
    refine hret _ _ _ (keeps_of (h := hh) (by assumption) (by assumption)) ?_
    refine SyPostO.mk [(WL, W.listOf (its.push _) (n + 1))] (by assumption) (by assumption) q2 (Nat.le_refl _) ?_ ?_
    rotate_left
    · exact List.forall_mem_cons.mpr ⟨List.forall_mem_cons.mpr ⟨Nat.ne_of_lt l1.1, List.forall_mem_cons.mpr ⟨Nat.ne_of_lt l1.2.1, q3⟩⟩, fun _ h => nomatch h⟩
    refine ⟨WL, _, _, rfl, rfl, ?_, rfl⟩
    have e : l.take es.size = l := by
      have h1 : es.size = xs.length := by have := congrArg List.length he; simpa using this
      rw [List.take_of_length_le (by rw [h1, hK.len]; exact Nat.le_refl _)]
    rw [e] at q1
    exact strsAre_push q1
theorem off_TW2 : True := by
  w_top off
  trivial
theorem table_words_U (w mean mg mb) (a : SymA) (st : SymSt) (c : Nat) (sy : List (Addr × Obj)) (D : Addr) (u : Tok) (o : Obj) (l : List ((Str × Int) × Int)) (low : (D == sysModules) = false) (hx : TabU w st o l) (hl : l.length ≤ 100) (hok : ∀ q ∈ l, EntUOk q) (hoff : ∀ q ∈ [(D, o)], q.1 ∉ (symR w a sy).map (·.1)) :
    Spec w mean mg mb 327 [.ref a.s, .ref D, .str (Str.ofString "U") u] (symR w a sy) 12 180 (fun h => SyP w a st c sy ∧ c < 10000 ∧ Held ([(D, o)]) h) (SyPostO w a c sy (WordsV (Str.ofString "{" :: l.map entU ++ [Str.ofString "}"]) st)) NoExc := by
  obtain ⟨as, ad, a1, a2, a3, a4, k1, k2, k3, k4⟩ := a
  refine Spec.of ?_
  intro dp un gd cn cs a ccd cl outer A₀ base h₀ L m hh gn dr tk os Q E B F X N T hk hd hu hpre hret hthr
  have hB : Bind [(Str.ofString "symbols", Value.ref as), (Str.ofString "table", Value.ref D), (Str.ofString "kind", Value.str (Str.ofString "U") u)] := .is
  obtain ⟨P, hc, hH⟩ := hpre
  dsimp only [symR, symI, symJ] at *
  refine let_goal ?_
  intro gl_P
  obtain ⟨kvs, l', ⟨es, ep, hxx, hda, hkeys, hpairs, hnd⟩, hfl, hnd', hF⟩ := hx
  dsimp only [gl_P]
  clear gl_P
  walk_at "mine enter"
  have ho := (‹Keeps hh _ _› : Keeps hh _ _) _ _ (hH _ (.head _)) (hoff _ (.head _))
  have hcl := hxx.1
  k_steps
  walk_at "mine for"
  unfold Hold
  rename Fr _ _ _ _ => lF'
  rename News _ _ _ _ => lN'
  rename _ ∧ _ ∧ AllLt _ _ => l1
  obtain ⟨WL, hWL, _⟩ : ∃ x : Addr, x = _ ∧ News _ _ _ ((x, W.listOf _ _) :: _) := ⟨_, rfl, lN'⟩
  subst hWL
  refine' dict_s (σ := TwS) (es := es) (fun q => (WL, W.listOf q.its q.n) :: (as, instObj 155 ad) :: (ad, dictOf (symE w a1 a2 a3 a4 k1 k2 k3 k4) 4) :: q.sy) (fun _ => []) [Str.ofString "text"]
    (fun i q => StrsAre q.its.toList (Str.ofString "{" :: (l.take i).map entU) ∧ SyP w ⟨as, ad, a1, a2, a3, a4, k1, k2, k3, k4⟩ st c q.sy ∧ (∀ x ∈ q.sy, x.1 ≠ WL))
    ⟨_, _, sy⟩ rfl low ho hxx hda lF' lN' (fun _ h => nomatch h) ?hinv ?turn ?done
  case hinv => exact ⟨.cons _ _ .nil, P, AllLt.off l1.2.2⟩
  case turn =>
    rintro i e ⟨its, n, sy2⟩ uu h2 tk2 it hee hI0 hA F2 N2
    with_reducible refine and3 hI0 fun q1 q2 q3 => ?_
    clear hI0
    (try dsimp only at *)
    clear lF' lN'
    refine let_goal ?_
    intro gl_P
    obtain ⟨f, jj, v, t, t1, g1, g2, g3, g5⟩ := tabU_item hpairs hfl hF hee
    dsimp only [gl_P]
    clear gl_P
    rw [g3] at F2
    have hql := hok _ (List.mem_of_getElem? g1)
    refine let_goal ?_
    intro gl_P
    obtain ⟨hna, hns, ⟨hj1, hj2, hj3, hj4⟩, hclong, ⟨hnlo, hnhi, hndig, hnlen⟩⟩ := hql
    dsimp only [gl_P]
    clear gl_P
    cases g5 with
    | @mk y j i0 n0 hy0 hf0 =>
    dsimp only at hna hns hj1 hj2 hj3 hj4 hclong hnlo hnhi hndig hnlen
    k_steps
    have N3 := news_sub N2 (mem_tw (w := w) (a := ⟨as, ad, a1, a2, a3, a4, k1, k2, k3, k4⟩) (P := (WL, W.listOf its n)) (sy := sy2) (it := it))
    have hoff2 : ∀ q ∈ (WL, W.listOf its n) :: it, ∀ p ∈ symR w ⟨as, ad, a1, a2, a3, a4, k1, k2, k3, k4⟩ sy2, p.1 ≠ q.1 := by
      refine List.forall_mem_cons.mpr ⟨List.forall_mem_cons.mpr ⟨Nat.ne_of_lt l1.1, List.forall_mem_cons.mpr ⟨Nat.ne_of_lt l1.2.1, q3⟩⟩, fun q hq p hp => ?_⟩
      exact fun e => hA q hq p.1 (List.mem_map.mpr ⟨p, .tail _ hp, rfl⟩) e.symm
    refine' Spec.useOh (R := (WL, W.listOf its n) :: it) (functor_text_spec _ _ _ _ ⟨as, ad, a1, a2, a3, a4, k1, k2, k3, k4⟩ st c sy2 i0 n0 t1 y j hf0 hy0 hna hns hj1 hj2 hj3 hj4) (fun _ _ _ z => SyPost.toO z) ?k1 ?k2 ?k3 N3 ?k5 ?kK ?kd ?ku ?kp hoff2 ?_ ?_
    case k1 => k_asm
    case k2 => k_asm
    case k3 => k_asm
    case k5 => k_asm
    case kK => first | exact rfl | assumption
    case kd => ktr_room
    case ku => ktr_units
    case kp => exact ⟨q2, hc⟩
    · intro v9 h9 tk9 own9 st9 sy9 qq P9 F9 N9 O9 D9 S9
      refine let_goal ?_
      intro gl_P
      obtain ⟨eo9, ⟨t9, e9⟩, e8⟩ := qq
      dsimp only [gl_P]
      clear gl_P
      subst eo9
      subst e9
      subst e8
      have o4 := tw_off (w := w) (a := ⟨as, ad, a1, a2, a3, a4, k1, k2, k3, k4⟩) hA O9
      have N10 := news_sub N9 (mem_twb (w := w) (a := ⟨as, ad, a1, a2, a3, a4, k1, k2, k3, k4⟩) (P := (WL, W.listOf its n)) (it := it))
      clear N9 N3 N2
      dsimp only [symI, symJ] at N10
      obtain ⟨rest, hrest⟩ : ∃ r, r = sy9 ++ it := ⟨_, rfl⟩
      rw [← hrest] at N10
      (try k_fold)
      k_sweep
      k_steps
      unfold Hold
      refine tail_any (RawDict.typeIs (es := es) (ep := ep) ⟨o, Fr.keep (by assumption) _ _ ho, hxx, hda⟩) slot_dict_getitem.lookup (get_tabU (Fr.keep (by assumption) _ _ ho) hxx hda hkeys hpairs hnd g2 ?_) (by with_unfolding_all rfl)
      k_steps
      unfold Hold
      have hits : its.size ≤ 16384 := by rw [strsAre_size q1]; simp only [List.length_cons, List.length_map, List.length_take]; walk_at "mine om"
      refine append_head (by assumption) (by assumption) ?_ hits (fun h8 F8 N8 => ?_)
      · refine List.forall_mem_cons.mpr ⟨Nat.ne_of_lt l1.1, List.forall_mem_cons.mpr ⟨Nat.ne_of_lt l1.2.1, ?_⟩⟩
        rw [hrest]
        intro p hp
        rcases List.mem_append.mp hp with hp | hp
        · exact O9 p hp _ (.head _)
        · exact hA p hp _ (.head _)
      k_steps
      obtain ⟨tv, N7⟩ : ∃ tv, News _ _ _ ((WL, W.listOf (its.push (.str (entU ((y, j), v)) tv)) (n + 1)) :: (as, instObj 155 ad) :: (ad, dictOf (symE w a1 a2 a3 a4 k1 k2 k3 k4) 4) :: rest) := ⟨_, by assumption⟩
      refine TurnS.next (⟨its.push (.str (entU ((y, j), v)) tv), n + 1, sy9⟩ : TwS) (by assumption) N7 ?hN o4 ?hI (fun _ h => nomatch h) (by walk_at "mine same")
      case hN =>
        rw [hrest]
        exact fun p hp => hp
      case hI =>
        (try dsimp only)
        refine ⟨?_, P9, fun x hx => O9 x hx _ (.head _)⟩
        have e : l.take (i + 1) = l.take i ++ [((y, j), v)] := by rw [List.take_add_one, g1]; rfl
        rw [e, List.map_append, ← List.cons_append]
        exact strsAre_push q1
    · intro e9 h9 tk9 T9
      refine let_goal ?_
      intro gl_P
      obtain ⟨_, _, _, x9, _⟩ := T9
      dsimp only [gl_P]
      clear gl_P
      exact x9.elim
  case done =>
    rintro ⟨its, n, sy2⟩ uu h2 tk2 hI0 F2 N2
    with_reducible refine and3 hI0 fun q1 q2 q3 => ?_
    clear hI0
    (try dsimp only at *)
    clear lF' lN'
    k_steps
    unfold Hold
    have hits : its.size ≤ 16384 := by rw [strsAre_size q1]; simp only [List.length_cons, List.length_map, List.length_take]; walk_at "mine om"
    refine append_head (by assumption) (by assumption) ?_ hits (fun h8 F8 N8 => ?_)
    · exact List.forall_mem_cons.mpr ⟨Nat.ne_of_lt l1.1, List.forall_mem_cons.mpr ⟨Nat.ne_of_lt l1.2.1, q3⟩⟩
    k_steps
    refine hret _ _ _ (keeps_of (h := hh) (by assumption) (by assumption)) ?_
    refine SyPostO.mk [(WL, W.listOf (its.push _) (n + 1))] (by assumption) (by assumption) q2 (Nat.le_refl _) ?_ ?_
    rotate_left
    · exact List.forall_mem_cons.mpr ⟨List.forall_mem_cons.mpr ⟨Nat.ne_of_lt l1.1, List.forall_mem_cons.mpr ⟨Nat.ne_of_lt l1.2.1, q3⟩⟩, fun _ h => nomatch h⟩
    refine ⟨WL, _, _, rfl, rfl, ?_, rfl⟩
    have e : l.take es.size = l := by
      have h1 : es.toList.length = kvs.length := hpairs.length
      have h2 : (tabD l').length = kvs.length := hfl.length
      have h3 := hF.len
      simp only [List.length_map, Array.length_toList] at h1 h2
      rw [List.take_of_length_le (by walk_at "mine om")]
    rw [e] at q1
    exact strsAre_push q1
theorem off_IW0 : True := by
  w_top off
  trivial
noncomputable def opT : Opd → List Str
  | .reg y i => [y ++ numT i]
  | .con d => [conT d]
  | .fn y j => [funT y j]
  | .num i => [numT i]
  | .tabT l => Str.ofString "{" :: l.map entT ++ [Str.ofString "}"]
  | .tabU l => Str.ofString "{" :: l.map entU ++ [Str.ofString "}"]
noncomputable def OpdOk : Opd → Prop
  | .reg y i => y.length ≤ 5 ∧ NumOk i
  | .con d => ConOk d
  | .fn y j => alnumS y = true ∧ y.length ≤ 18 ∧ NumOk j
  | .num i => NumOk i
  | .tabT l => l.length ≤ 100 ∧ ∀ q ∈ l, EntTOk q
  | .tabU l => l.length ≤ 100 ∧ ∀ q ∈ l, EntUOk q
theorem opT_len {d : Opd} (h : OpdOk d) : (opT d).length ≤ 102 := by
  cases d with
  | tabT l => have := h.1; simp [opT]; walk_at "mine om"
  | tabU l => have := h.1; simp [opT]; walk_at "mine om"
  | _ => simp [opT]
theorem flat_len : ∀ {ds : List Opd}, (∀ d ∈ ds, OpdOk d) → (ds.flatMap opT).length ≤ 102 * ds.length := by
  intro ds
  induction ds with
  | nil => exact fun _ => Nat.le_refl _
  | cons d ds ih =>
    intro h
    have h1 := opT_len (h d (.head _))
    have h2 := ih fun x hx => h x (.tail _ hx)
    rw [List.flatMap_cons, List.length_append]
    exact Nat.le_trans (Nat.add_le_add h1 h2) (Nat.le_of_eq (Nat.add_comm 102 _))
theorem strsAre_at {vs : List Value} {ws : List Str} {i : Nat} {v : Value} (h : StrsAre vs ws) (e : vs[i]? = some v) : ∃ x t, ws[i]? = some x ∧ v = .str x t := by
  induction h generalizing i with
  | nil => cases i <;> cases e
  | cons x t r ih =>
    cases i with
    | zero => exact ⟨x, t, rfl, (Option.some.inj e).symm⟩
    | succ i => exact ih e
theorem mem_iwb {w : World} {a : SymA} {P x : Addr × Obj} {sy it : List (Addr × Obj)} : ∀ p ∈ P :: x :: symI a :: symJ w a :: (sy ++ it), p ∈ (P :: it) ++ ([x] ++ symR w a sy) := Sub.out (by walk_at "mine sub")
theorem mem_iwc {w : World} {a : SymA} {P x : Addr × Obj} {l : List (Addr × Obj)} : ∀ p ∈ P :: symI a :: symJ w a :: l, p ∈ P :: x :: symI a :: symJ w a :: l := Sub.out (by walk_at "mine sub")
structure IwS where
  its : Array Value
  n : Nat
theorem item_second {w : World} {A : Around} {E : Value → Shared → Prop} {s : Shared} {value slice : PySem.Expr} {t : Addr} {Q : Value → Shared → Prop} {u : Tok} {x v : Value} (ht : IsTup s.heap t #[x, v]) (h : Q v s)
    (hs : subscripted slice false (.ref t) (.int 1 u) = operate [.ref t, .int 1 u] (getItem (.ref t) (.int 1 u))) (hg : ∀ r, letTemporaryGo value (.ref t) r = pure ()) : wpAny (model PG w) A (subscriptTail value slice (.ref t) (.int 1 u)) Q E s :=
  item_tupleL (j := 1) (l := [x, v]) ht (by decide) (by decide) rfl rfl h hs hg
theorem iw_a {a x t o : Nat} (h1 : a ≤ 16000) (h2 : a = x) (h3 : t ≤ o) (h4 : o ≤ 102) : x + t ≤ 16384 := Nat.le_trans (Nat.add_le_add (h2 ▸ h1) (Nat.le_trans h3 h4)) (by decide)
theorem occ_tf {a b : Str} {i j k : Nat} {P : Prop} (h1 : (Builtin.Str.occurrences a b i j k).isEmpty = true) (h2 : (Builtin.Str.occurrences a b i j k).isEmpty = false) : P := Bool.noConfusion (h1.symm.trans h2)
noncomputable abbrev LawV (w : World) (st : SymSt) (r : Option Opd) (v : Value) (own : List (Addr × Obj)) (st' : SymSt) : Prop :=
  (match r with | none => v = .none ∧ own = [] | some d => OpV w st' d v own) ∧ st.le st'
noncomputable def lawR (so nu : Int) : Option Opd := if 0 < nu then (if so = 0 then some (.reg (Str.ofString "x") nu) else if so = 1 then some (.reg (Str.ofString "y") nu) else none) else none
noncomputable def lawX (so nu : Int) : Option Opd := if 0 < nu then (if so = 0 then some (.reg (Str.ofString "x") nu) else none) else none
noncomputable def lawY (so nu : Int) : Option Opd := if 0 < nu then (if so = 1 then some (.reg (Str.ofString "y") nu) else none) else none
noncomputable def lawC (wd : Str) (so nu : Int) : Option Opd := if so = 0 ∨ so = 1 ∨ so = 3 then some (.con (.inr wd)) else if so = 2 then some (.con (.inl nu)) else if so = 4 then (if 0 < nu then some (.con (.inl (-nu))) else none) else none
noncomputable def lawF (so nu : Int) : Option Opd := if so = 5 then some (.fn (Str.ofString "bar") nu) else none
noncomputable def lawN (so nu : Int) : Option Opd := if so = 2 then some (.num nu) else none
theorem LawV.none {w : World} {st : SymSt} {r : Option Opd} (h : r = .none) : LawV w st r .none [] st := by subst h; exact ⟨⟨rfl, rfl⟩, st.le_refl⟩
theorem LawV.some {w : World} {st st' : SymSt} {r : Option Opd} {d : Opd} {v : Value} {own : List (Addr × Obj)} (h : r = .some d) (x : OpV w st' d v own) (l : st.le st') : LawV w st r v own st' := by subst h; exact ⟨x, l⟩
theorem news_drop2 {g h : Heap} {L : Addr} {x y : Addr × Obj} {l : List (Addr × Obj)} (N : News g L h (x :: y :: l)) : News g L h (x :: l) := news_sub N fun p hp => (List.mem_cons.mp hp).elim (fun e => e ▸ .head _) fun q => .tail _ (.tail _ q)
theorem news_drop1 {g h : Heap} {L : Addr} {y : Addr × Obj} {l : List (Addr × Obj)} (N : News g L h (y :: l)) : News g L h l := news_sub N fun p hp => .tail _ hp
theorem any013 {so : Int} : ([0, 1, 3].any fun x => x == so) = decide (so = 0 ∨ so = 1 ∨ so = 3) := by
  by_cases h0 : so = 0
  · subst h0; rfl
  · by_cases h1 : so = 1
    · subst h1; rfl
    · by_cases h3 : so = 3
      · subst h3; rfl
      · simp [h0, h1, h3, Ne.symm h0, Ne.symm h1, Ne.symm h3]
theorem LawV.some2 {w : World} {st st' : SymSt} {r : Option Opd} {d : Opd} {v : Value} {own : List (Addr × Obj)} (x : OpV w st' d v own) (l : st.le st') (h : r = .some d) : LawV w st r v own st' := LawV.some h x l
theorem off_Nav : True := by
  w_top off
  trivial
noncomputable def fnAt (i : Nat) : Stmt := PySem.Challenge.pw_rh0084_01.main.body.getD i (.Pass ⟨0, 0, 0, 0⟩)
noncomputable def stParts : Stmt → List Stmt × Scope
  | .FunctionDef _ _ b _ _ _ s _ _ _ => (b, s)
  | .For _ _ b _ _ => (b, ⟨.function, [], false, false, []⟩)
  | .If _ b _ _ => (b, ⟨.function, [], false, false, []⟩)
  | .ClassDef _ _ _ b _ _ _ _ _ _ _ => (b, ⟨.function, [], false, false, []⟩)
  | _ => ([], ⟨.function, [], false, false, []⟩)
noncomputable def stBody (s : Stmt) : List Stmt := (stParts s).1
noncomputable def fnScope (s : Stmt) : Scope := (stParts s).2
noncomputable def stAt (l : List Stmt) (i : Nat) : Stmt := l.getD i (.Pass ⟨0, 0, 0, 0⟩)
noncomputable def wordScope : Scope := fnScope (fnAt 47)
noncomputable def wordTail : List Stmt := (stBody (fnAt 47)).drop 1
noncomputable def wordEnd : List Stmt := (stBody (fnAt 47)).drop 3
noncomputable def lawScope : Scope := fnScope (fnAt 50)
noncomputable def turnBody : List Stmt := stBody (stAt (stBody (fnAt 50)) 4)
noncomputable def turnTail : List Stmt := turnBody.drop 4
noncomputable def kindBody : List Stmt := stBody (stAt turnBody 3)
noncomputable def stepBody : List Stmt := stBody (stAt (stBody (stAt kindBody 1)) 1)
theorem Fr.pick {g h : Heap} {L : Addr} {m : Str → Option Value} {ps : List (Str × Value)} (F : Fr g L h m) (hp : ∀ p ∈ ps, m p.1 = some p.2) : Fr g L h (kstB m ps) := by
  have e : kstB m ps = m := by funext z; exact kstB_eq hp fun _ => rfl
  rw [e]; exact F
noncomputable def wordL : List Str := [Str.ofString "x", Str.ofString "y", Str.ofString "", Str.ofString "foo", Str.ofString "-", Str.ofString "bar/", Str.ofString "{"]
noncomputable def sortS (so : Int) : Str := wordL.getD so.toNat Str.empty
noncomputable def wordS (so nu : Int) : Str := sortS so ++ (if so = 3 ∨ so = 6 then Str.ofString "" else Str.ofString (toString nu))
noncomputable def numL : List Int := [1, 2, 0, 12, 300, 1000]
theorem numF {i : Int} (h0 : 0 ≤ i) (h6 : i < 6) : ([1, 2, 0, 12, 300, 1000] : List Int).getD i.toNat 0 ∈ numL ∧ 0 ≤ ([1, 2, 0, 12, 300, 1000] : List Int).getD i.toNat 0 ∧ ([1, 2, 0, 12, 300, 1000] : List Int).getD i.toNat 0 ≤ 1000 ∧ (Str.ofString (toString (([1, 2, 0, 12, 300, 1000] : List Int).getD i.toNat 0))).length ≤ 4 :=
  (by decide +kernel : ∀ k : Nat, k < 6 → (([1, 2, 0, 12, 300, 1000] : List Int).getD k 0 ∈ numL ∧ 0 ≤ ([1, 2, 0, 12, 300, 1000] : List Int).getD k 0 ∧ ([1, 2, 0, 12, 300, 1000] : List Int).getD k 0 ≤ 1000 ∧ (Str.ofString (toString (([1, 2, 0, 12, 300, 1000] : List Int).getD k 0))).length ≤ 4)) i.toNat (by walk_at "mine om")
theorem News.more' {g h : Heap} {L : Addr} {x : Addr × Obj} {l : List (Addr × Obj)} (h1 : h.get? x.1 = some x.2 ∧ x.1 ≠ L ∧ g.get? x.1 = none) (N : News g L h l) : News g L h (x :: l) := fun p hp => by
  rcases List.mem_cons.mp hp with rfl | hp
  · exact h1
  · exact N p hp
section
variable {nu : Int}
end
noncomputable def spoilTail : List Stmt := turnBody.drop 6
noncomputable def keptTail : List Stmt := turnBody.drop 9
noncomputable def initFn : Stmt := stAt (stBody (fnAt 6)) 0
noncomputable def initScope : Scope := fnScope initFn
noncomputable def initTail : List Stmt := (stBody initFn).drop 4
theorem code_let {M : Model} {A₀ : Around} {b b' : List Stmt} {nm : Str} {sc sc' : Scope} {L fa : Addr} {cd : Value} {Q : Flow → Shared → Prop} {E : Value → Shared → Prop} {s : Shared} (hb : b = b') (hsc : sc = sc')
    (h : let env := envOf nm sc' L fa cd; let A := A₀.deeper env; wpAny M A (execs b' env) Q E s) : wpAny M (A₀.deeper (envOf nm sc L fa cd)) (execs b (envOf nm sc L fa cd)) Q E s := by
  subst hb hsc; exact h
theorem code_use {M : Model} {A₀ : Around} {b b' : List Stmt} {nm : Str} {sc sc' : Scope} {L fa : Addr} {cd : Value} {Q : Flow → Shared → Prop} {E : Value → Shared → Prop} {s : Shared} (hb : b' = b) (hsc : sc' = sc)
    (h : wpAny M (A₀.deeper (envOf nm sc L fa cd)) (execs b (envOf nm sc L fa cd)) Q E s) : wpAny M (A₀.deeper (envOf nm sc' L fa cd)) (execs b' (envOf nm sc' L fa cd)) Q E s := by
  subst hb hsc; exact h
theorem code_letE {M : Model} {A₀ : Around} {b b' : List Stmt} {nm : Str} {sc sc' : Scope} {L fa : Addr} {cd : Value} {Q : Flow → Shared → Prop} {E : Value → Shared → Prop} {s : Shared} (hb : b = b') (hsc : sc = sc')
    (hE : PassesOwn M (A₀.deeper (envOf nm sc L fa cd)) (envOf nm sc L fa cd) E)
    (h : let env := envOf nm sc' L fa cd; let A := A₀.deeper env; PassesOwn M A env E → wpAny M A (execs b' env) Q E s) : wpAny M (A₀.deeper (envOf nm sc L fa cd)) (execs b (envOf nm sc L fa cd)) Q E s := by
  subst hb hsc; exact h hE
theorem off_PL1 : True := by
  w_top off
  trivial
noncomputable def sortL : List Int := [0, 1, 2, 3, 4, 5, 6]
theorem so_mem {so : Int} (h0 : 0 ≤ so) (h7 : so < 7) : so ∈ sortL := by
  rw [← Int.toNat_of_nonneg h0]
  exact (by decide : ∀ k : Nat, k < 7 → (k : Int) ∈ sortL) so.toNat (by walk_at "mine om")
noncomputable abbrev stepL : List Int := [0, 1, 2]
noncomputable def keyC (wd : Str) (so nu : Int) : Option (Int ⊕ Str) := if so = 0 ∨ so = 1 ∨ so = 3 then some (.inr wd) else if so = 2 then some (.inl nu) else if so = 4 then (if 0 < nu then some (.inl (-nu)) else none) else none
noncomputable def keyF (so nu : Int) : Option (Str × Int) := if so = 5 then some (Str.ofString "bar", nu) else none
noncomputable def keyR (so nu : Int) : Option (Str × Int) := if so = 0 then some (Str.ofString "x", nu) else if so = 1 then some (Str.ofString "y", nu) else none
noncomputable def keyN (so nu : Int) : Option Int := if so = 2 then some nu else none
noncomputable abbrev WordB (x : Str) : Prop := x.length ≤ 18 ∧ 1 ≤ x.length ∧ (Txt.item x 0 != Str.ofString "'") = true ∧ (Txt.rfind x (Str.ofString "/") < 1 ∨ (1 ≤ (Txt.slice x none (some (Txt.rfind x (Str.ofString "/")))).length ∧ (Txt.item (Txt.slice x none (some (Txt.rfind x (Str.ofString "/")))) 0 != Str.ofString "'") = true))
theorem WordB.ok {x : Str} (h : WordB x) : WordOk x := ⟨h.1, h.2.1, h.2.2.1, fun q => h.2.2.2.resolve_left q⟩
noncomputable def entS (so nu st : Int) : Str := wordS so nu ++ Str.ofString ":" ++ Str.ofString (toString st)
set_option maxRecDepth 100000 in
theorem word_all : ∀ so ∈ sortL, ∀ nu ∈ numL, WordB (wordS so nu) ∧ colS (wordS so nu) < 1 ∧ wordS so nu ≠ Str.ofString "}" := by decide +kernel
theorem read_all : ∀ so ∈ sortL, ∀ nu ∈ numL, regS (wordS so nu) = keyR so nu ∧ conS (wordS so nu) = keyC (wordS so nu) so nu ∧ funS (wordS so nu) = keyF so nu ∧ cntS (wordS so nu) = keyN so nu := by decide +kernel
theorem ent_all : ∀ so ∈ sortL, ∀ nu ∈ numL, ∀ st ∈ stepL, WordB (entS so nu st) ∧ 1 ≤ colS (entS so nu st) ∧ keyW (entS so nu st) = wordS so nu ∧ cntS (valW (entS so nu st)) = some st ∧ entS so nu st ≠ Str.ofString "}" := by decide +kernel
theorem off_PL2 : True := by
  w_top off
  trivial
noncomputable abbrev NumB (i : Int) : Prop := -1000000 < i ∧ i < 1000000 ∧ (Str.ofString (toString (if i < 0 then -i else i))).length ≤ 20 ∧ (numT i).length ≤ 30
theorem NumB.ok {i : Int} (h : NumB i) : NumOk i := ⟨h.1, h.2.1, h.2.2.1, h.2.2.2⟩
noncomputable def conB (x : Str) : Option (Int ⊕ Str) → Bool
  | none => true
  | some (.inl i) => decide (NumB i ∧ numT i = x)
  | some (.inr y) => decide (alnumS y = true ∧ y = x)
noncomputable def funB (x : Str) : Option (Str × Int) → Bool
  | none => true
  | some (y, j) => decide (alnumS y = true ∧ y.length ≤ 18 ∧ NumB j ∧ funT y j = x)
theorem conB_ok {x : Str} {d : Int ⊕ Str} (h : conB x (some d) = true) : ConOk d ∧ conT d = x := by
  cases d with
  | inl i =>
    obtain ⟨a, b⟩ := of_decide_eq_true h
    exact ⟨⟨a.1, a.2.1, a.2.2.1⟩, b⟩
  | inr y =>
    obtain ⟨a, b⟩ := of_decide_eq_true h
    exact ⟨a, b⟩
theorem funB_ok {x y : Str} {j : Int} (h : funB x (some (y, j)) = true) : alnumS y = true ∧ y.length ≤ 18 ∧ NumOk j ∧ funT y j = x := by
  refine let_goal ?_
  intro gl_P
  obtain ⟨a, b, c, d⟩ := of_decide_eq_true h
  dsimp only [gl_P]
  clear gl_P
  exact ⟨a, b, c.ok, d⟩
theorem text_all : ∀ so ∈ sortL, ∀ nu ∈ numL, conB (wordS so nu) (keyC (wordS so nu) so nu) = true ∧ funB (wordS so nu) (keyF so nu) = true ∧ (so = 0 → Str.ofString "x" ++ numT nu = wordS so nu) ∧ (so = 1 → Str.ofString "y" ++ numT nu = wordS so nu) ∧ (so = 2 → numT nu = wordS so nu) ∧ NumB nu ∧ 0 ≤ nu := by decide +kernel
theorem etext_all : ∀ so ∈ sortL, ∀ nu ∈ numL, ∀ st ∈ stepL, wordS so nu ++ Str.ofString ":" ++ numT st = entS so nu st ∧ NumB st ∧ (wordS so nu).length ≤ 18 := by decide +kernel
theorem brace_ok : WordB (Str.ofString "{") ∧ WordB (Str.ofString "}") ∧ WordB (Str.ofString "1") ∧ colS (Str.ofString "{") < 1 ∧ colS (Str.ofString "}") < 1 ∧ colS (Str.ofString "1") < 1 := by decide +kernel
noncomputable abbrev Cmp (c c' : Nat) : Prop := c' = c ∨ (c = 78 ∧ c' = 76)
structure Grp (c c' : Nat) (g : List Str) (r0 r : Option Opd) : Prop where
  pos : g ≠ []
  short : g.length ≤ 5
  word : ∀ x ∈ g, WordOk x ∧ EntryOk x
  read : ∀ pre rest, opS c' (pre ++ g ++ rest) pre.length = r0.map fun d => (d, pre.length + g.length)
  same : r = r0.bind fun d => if okS ⟨#[c']⟩ d = true then some d else none
  text : ∀ d, r = some d → opT d = g ∧ OpdOk d ∧ Fits ⟨#[c]⟩ d
  one : c ≠ 84 → c ≠ 85 → g.length = 1
inductive LawW : List Nat → List Nat → List Str → List (Option Opd) → List (Option Opd) → Prop
  | nil : LawW [] [] [] [] []
  | snoc {cs cs' : List Nat} {ws g : List Str} {r0s rs : List (Option Opd)} {c c' : Nat} {r0 r : Option Opd} : LawW cs cs' ws r0s rs → Grp c c' g r0 r → LawW (cs ++ [c]) (cs' ++ [c']) (ws ++ g) (r0s ++ [r0]) (rs ++ [r])
noncomputable def seqO {α : Type} : List (Option α) → Option (List α)
  | [] => some []
  | none :: _ => none
  | some x :: r => (seqO r).map (x :: ·)
theorem seqO_snoc {α : Type} (l : List (Option α)) (x : Option α) : seqO (l ++ [x]) = (seqO l).bind fun ds => x.map fun d => ds ++ [d] := by
  induction l with
  | nil => cases x <;> rfl
  | cons y r ih =>
    cases y with
    | none => rfl
    | some y =>
      show (seqO (r ++ [x])).map (y :: ·) = ((seqO r).map (y :: ·)).bind _
      rw [ih]
      cases seqO r <;> cases x <;> rfl
theorem seqO_len {α : Type} : ∀ {l : List (Option α)} {ds : List α}, seqO l = some ds → ds.length = l.length := by
  intro l
  induction l with
  | nil => intro ds h; cases h; rfl
  | cons y r ih =>
    intro ds h
    cases y with
    | none => cases h
    | some y =>
    obtain ⟨d, h1, rfl⟩ := Option.map_eq_some_iff.mp (show (seqO r).map _ = some ds from h)
    exact congrArg Nat.succ (ih h1)
theorem opsS_snoc (c : Nat) (ws : List Str) (cs : List Nat) (j : Nat) : opsS (cs ++ [c]) ws j = match opsS cs ws j with
    | none => none
    | some (ds, j') => if ws.length ≤ j' then none else match opS c ws j' with
      | none => none
      | some (d, j'') => some (ds ++ [d], j'') := by
  induction cs generalizing j with
  | nil =>
    simp only [List.nil_append, opsS]
    split
    · rfl
    · cases opS c ws j <;> rfl
  | cons c0 cs ih =>
    simp only [List.cons_append, opsS]
    split
    · rfl
    · cases opS c0 ws j with
      | none => rfl
      | some p =>
        obtain ⟨d, j'⟩ := p
        simp only [ih j']
        cases opsS cs ws j' with
        | none => rfl
        | some q =>
          obtain ⟨ds, j2⟩ := q
          simp only [Option.map_some]
          split
          · rfl
          · cases opS c ws j2 <;> rfl
theorem okAll_snoc {c : Nat} {d : Opd} {cs : List Nat} {ds : List Opd} (h : ds.length = cs.length) : okAll (cs ++ [c]) (ds ++ [d]) = (okAll cs ds && okS ⟨#[c]⟩ d) := by
  induction cs generalizing ds with
  | nil =>
    cases ds with
    | nil => exact Bool.and_comm _ _
    | cons x ds => exact nomatch (h : ds.length + 1 = 0)
  | cons y cs ih =>
    cases ds with
    | nil => exact nomatch (h : 0 = cs.length + 1)
    | cons x ds => exact (congrArg (okS ⟨#[y]⟩ x && ·) (ih (Nat.succ.inj h))).trans (Bool.and_assoc _ _ _).symm
section
variable {cs cs' : List Nat} {ws : List Str} {r0s rs : List (Option Opd)}
theorem snoc_len {α β : Type} {l : List α} {l' : List β} {x : α} {y : β} (h : l.length = l'.length) : (l ++ [x]).length = (l' ++ [y]).length := by
  rw [List.length_append, List.length_append, h]; rfl
theorem LawW.lens (h : LawW cs cs' ws r0s rs) : cs'.length = cs.length ∧ r0s.length = cs.length ∧ rs.length = cs.length ∧ ws.length ≤ 5 * cs.length := by
  induction h with
  | nil => exact ⟨rfl, rfl, rfl, Nat.le_refl _⟩
  | snoc _ G ih =>
    refine ⟨snoc_len ih.1, snoc_len ih.2.1, snoc_len ih.2.2.1, ?_⟩
    rw [List.length_append, List.length_append]
    exact Nat.add_le_add ih.2.2.2 G.short
theorem LawW.ops (h : LawW cs cs' ws r0s rs) : ∀ pre rest, opsS cs' (pre ++ ws ++ rest) pre.length = (seqO r0s).map fun ds => (ds, pre.length + ws.length) := by
  induction h with
  | nil => intro pre rest; rfl
  | @snoc cs cs' ws g r0s rs c c' r0 r _ G ih =>
    intro pre rest
    have e : pre ++ (ws ++ g) ++ rest = (pre ++ ws) ++ g ++ rest := by simp
    have h1 := ih pre (g ++ rest)
    rw [show pre ++ ws ++ (g ++ rest) = (pre ++ ws) ++ g ++ rest by simp] at h1
    rw [opsS_snoc, e, h1, seqO_snoc]
    cases seqO r0s with
    | none => rfl
    | some ds =>
      have h2 := G.read (pre ++ ws) rest
      rw [List.length_append] at h2
      have hp : 0 < g.length := List.length_pos_iff.mpr G.pos
      dsimp only [Option.map_some, Option.bind_some]
      rw [if_neg (by simp; walk_at "mine om"), h2]
      cases r0 with
      | none => rfl
      | some d => simp [Nat.add_assoc]
theorem LawW.same (h : LawW cs cs' ws r0s rs) : seqO rs = (seqO r0s).bind fun ds => if okAll cs' ds = true then some ds else none := by
  induction h with
  | nil => rfl
  | @snoc cs cs' ws g r0s rs c c' r0 r h G ih =>
    rw [seqO_snoc, seqO_snoc, ih, G.same]
    cases q : seqO r0s with
    | none => rfl
    | some ds =>
      have hl : ds.length = cs'.length := by have := seqO_len q; have := h.lens; walk_at "mine om"
      cases r0 with
      | none => cases q2 : okAll cs' ds <;> simp [q2]
      | some d =>
        simp only [Option.bind_some, Option.map_some, okAll_snoc hl]
        cases q2 : okAll cs' ds <;> cases q3 : okS ⟨#[c']⟩ d <;> simp [q2, q3]
theorem LawW.ins (h : LawW cs cs' ws r0s rs) (nm : Str) : insS cs' (nm :: ws) = seqO rs := by
  have h1 := h.ops [nm] []
  rw [List.append_nil] at h1
  have h1' : opsS cs' (nm :: ws) 1 = (seqO r0s).map fun ds => (ds, 1 + ws.length) := h1
  rw [h.same, insS, h1']
  cases seqO r0s with
  | none => rfl
  | some ds =>
    simp only [Option.map_some, Option.bind_some, List.length_cons]
    by_cases hk : okAll cs' ds = true
    · rw [if_pos ⟨by walk_at "mine om", hk⟩, if_pos hk]
    · rw [if_neg (fun q => hk q.2), if_neg hk]
theorem LawW.more (h : LawW cs cs' ws r0s rs) (nm x : Str) : insS cs' (nm :: (ws ++ [x])) = none := by
  have h1 := h.ops [nm] [x]
  have h1' : opsS cs' (nm :: (ws ++ [x])) 1 = (seqO r0s).map fun ds => (ds, 1 + ws.length) := by simpa using h1
  rw [insS, h1']
  cases seqO r0s with
  | none => rfl
  | some ds =>
    have e : ¬1 + ws.length = (nm :: (ws ++ [x])).length := by simp; walk_at "mine om"
    simp only [Option.map_some]
    rw [if_neg (fun q => e q.1)]
theorem LawW.less (h : LawW cs cs' ws r0s rs) (nm : Str) (hl : ∀ c, cs.getLast? = some c → c ≠ 84 ∧ c ≠ 85) (hne : ws ≠ []) : insS cs' (nm :: ws.dropLast) = none := by
  cases h with
  | nil => exact absurd rfl hne
  | @snoc cs cs' ws g r0s rs c c' r0 r h G =>
    obtain ⟨a, b⟩ := hl c (by first | walk_at "mine mem1" | simp)
    have h1 := G.one a b
    obtain ⟨x, rfl⟩ := List.length_eq_one_iff.mp h1
    rw [List.dropLast_concat, insS, opsS_snoc]
    have h2 := h.ops [nm] []
    rw [List.append_nil] at h2
    have h2' : opsS cs' (nm :: ws) 1 = (seqO r0s).map fun ds => (ds, 1 + ws.length) := h2
    rw [h2']
    cases seqO r0s with
    | none => rfl
    | some ds =>
      simp only [Option.map_some]
      rw [if_pos (by simp; walk_at "mine om")]
theorem LawW.words (h : LawW cs cs' ws r0s rs) : ∀ x ∈ ws, WordOk x ∧ EntryOk x := by
  induction h with
  | nil => exact fun _ h => nomatch h
  | snoc _ G ih => exact fun x hx => (List.mem_append.mp hx).elim (ih x) (G.word x)
theorem LawW.texts (h : LawW cs cs' ws r0s rs) : ∀ ds, seqO rs = some ds → ds.flatMap opT = ws ∧ (∀ d ∈ ds, OpdOk d) := by
  induction h with
  | nil => intro ds h; cases h; exact ⟨rfl, fun _ h => nomatch h⟩
  | @snoc cs cs' ws g r0s rs c c' r0 r h G ih =>
    intro ds hd
    rw [seqO_snoc] at hd
    cases q : seqO rs with
    | none => rw [q] at hd; cases hd
    | some ds' =>
      rw [q] at hd
      cases r with
      | none => cases hd
      | some d =>
        cases hd
        refine let_goal ?_
        intro gl_P
        obtain ⟨a, b⟩ := ih ds' q
        obtain ⟨e, f, _⟩ := G.text d rfl
        dsimp only [gl_P]
        clear gl_P
        refine ⟨by simp [a, e], fun x hx => ?_⟩
        rcases List.mem_append.mp hx with hx | hx
        · exact b x hx
        · rw [List.mem_singleton.mp hx]; exact f
end
noncomputable def lawOp (c : Nat) (wd : Str) (so nu : Int) : Option Opd :=
  if c = 82 then lawR so nu else if c = 88 then lawX so nu else if c = 89 then lawY so nu else if c = 67 then lawC wd so nu else if c = 70 then lawF so nu else lawN so nu
theorem entryOk_of {x : Str} (h : WordB x) (hc : colS x < 1) : EntryOk x := ⟨h.1, fun q => absurd hc q⟩
theorem lawC_key {wd : Str} {so nu : Int} : lawC wd so nu = (keyC wd so nu).map .con := by
  unfold lawC keyC
  split
  · rfl
  · split
    · rfl
    · split
      · split <;> rfl
      · rfl
theorem lawF_key {so nu : Int} : lawF so nu = (keyF so nu).map fun p => .fn p.1 p.2 := by
  unfold lawF keyF; split <;> rfl
theorem lawN_key {so nu : Int} : lawN so nu = (keyN so nu).map .num := by
  unfold lawN keyN; split <;> rfl
theorem opS_word {c : Nat} {x : Str} {pre rest : List Str} (h1 : c ≠ 84) (h2 : c ≠ 85) : opS c (pre ++ [x] ++ rest) pre.length = (readS ⟨#[c]⟩ x).map fun d => (d, pre.length + [x].length) := by
  have e : (pre ++ [x] ++ rest).getD pre.length Str.empty = x := by simp [List.getD_eq_getElem?_getD]
  unfold opS
  rw [if_neg h1, if_neg h2, e]
  rfl
theorem grp_of {c c' : Nat} {x : Str} {r0 r : Option Opd} (h1 : c' ≠ 84) (h2 : c' ≠ 85) (hw : WordB x) (hc : colS x < 1) (h0 : readS ⟨#[c']⟩ x = r0) (hs : r = r0.bind fun d => if okS ⟨#[c']⟩ d = true then some d else none)
    (ht : ∀ d, r = some d → opT d = [x] ∧ OpdOk d ∧ Fits ⟨#[c]⟩ d) : Grp c c' [x] r0 r where
  pos := by simp
  short := by simp
  word := fun y hy => by rw [List.mem_singleton.mp hy]; exact ⟨hw.ok, entryOk_of hw hc⟩
  read := fun pre rest => by rw [opS_word h1 h2, h0]
  same := hs
  text := ht
  one := fun _ _ => rfl
section
variable {so nu : Int} (hs : so ∈ sortL) (hn : nu ∈ numL)
include hs hn
theorem grpR : Grp 82 82 [wordS so nu] ((keyR so nu).map fun p => .reg p.1 p.2) (lawR so nu) := by
  refine let_goal ?_
  intro gl_P
  obtain ⟨w1, w2, _⟩ := word_all so hs nu hn
  obtain ⟨r1, _, _, _⟩ := read_all so hs nu hn
  obtain ⟨_, _, x1, x2, _, x4, x5⟩ := text_all so hs nu hn
  dsimp only [gl_P]
  clear gl_P
  refine grp_of (by decide) (by decide) w1 w2 ?_ ?_ ?_
  · rw [show readS ⟨#[82]⟩ (wordS so nu) = (regS (wordS so nu)).map (fun p => Opd.reg p.1 p.2) from rfl, r1]
  · unfold lawR keyR
    by_cases h0 : so = 0
    · subst h0
      by_cases hp : 0 < nu
      · have : (1 ≤ nu) := hp
        simp [hp, okS, this, show ((⟨#[82]⟩ : Str) == Str.ofString "R") = true from rfl]
      · have : ¬(1 ≤ nu) := hp
        simp [hp, okS, this, show ((⟨#[82]⟩ : Str) == Str.ofString "R") = true from rfl]
    · by_cases h1 : so = 1
      · subst h1
        by_cases hp : 0 < nu
        · have : (1 ≤ nu) := hp
          simp [hp, okS, this, show ((⟨#[82]⟩ : Str) == Str.ofString "R") = true from rfl]
        · have : ¬(1 ≤ nu) := hp
          simp [hp, okS, this, show ((⟨#[82]⟩ : Str) == Str.ofString "R") = true from rfl]
      · simp [h0, h1]
  · intro d hd
    unfold lawR at hd
    split at hd
    · split at hd
      · rename_i h0
        cases hd
        exact ⟨by simp [opT, x1 h0], ⟨by decide, x4.ok⟩, .R _ _⟩
      · split at hd
        · rename_i h1
          cases hd
          exact ⟨by simp [opT, x2 h1], ⟨by decide, x4.ok⟩, .R _ _⟩
        · cases hd
    · cases hd
theorem grpX : Grp 88 88 [wordS so nu] ((keyR so nu).map fun p => .reg p.1 p.2) (lawX so nu) := by
  refine let_goal ?_
  intro gl_P
  obtain ⟨w1, w2, _⟩ := word_all so hs nu hn
  obtain ⟨r1, _, _, _⟩ := read_all so hs nu hn
  obtain ⟨_, _, x1, x2, _, x4, x5⟩ := text_all so hs nu hn
  dsimp only [gl_P]
  clear gl_P
  have k1 : ((⟨#[88]⟩ : Str) == Str.ofString "R") = false := by decide
  have k2 : ((⟨#[88]⟩ : Str) == Str.ofString "X") = true := rfl
  have k3 : (Str.ofString "x" == Str.ofString "y") = false := by decide
  refine grp_of (by decide) (by decide) w1 w2 ?_ ?_ ?_
  · rw [show readS ⟨#[88]⟩ (wordS so nu) = (regS (wordS so nu)).map (fun p => Opd.reg p.1 p.2) from rfl, r1]
  · unfold lawX keyR
    by_cases h0 : so = 0
    · subst h0
      by_cases hp : 0 < nu
      · have : (1 ≤ nu) := hp
        simp [hp, okS, this, k1, k2]
      · have : ¬(1 ≤ nu) := hp
        simp [hp, okS, this, k1, k2]
    · by_cases h1 : so = 1
      · subst h1
        simp only [h0, if_false, if_true, Option.map_some, Option.bind_some, okS, k1, k2, Bool.false_eq_true, List.any_cons, List.any_nil, k3, Bool.or_false, Bool.false_and, ite_self]
      · simp [h0, h1]
  · intro d hd
    unfold lawX at hd
    split at hd
    · split at hd
      · rename_i h0
        cases hd
        exact ⟨by simp [opT, x1 h0], ⟨by decide, x4.ok⟩, .X _ _⟩
      · cases hd
    · cases hd
theorem grpY : Grp 89 89 [wordS so nu] ((keyR so nu).map fun p => .reg p.1 p.2) (lawY so nu) := by
  refine let_goal ?_
  intro gl_P
  obtain ⟨w1, w2, _⟩ := word_all so hs nu hn
  obtain ⟨r1, _, _, _⟩ := read_all so hs nu hn
  obtain ⟨_, _, x1, x2, _, x4, x5⟩ := text_all so hs nu hn
  dsimp only [gl_P]
  clear gl_P
  have k1 : ((⟨#[89]⟩ : Str) == Str.ofString "R") = false := by decide
  have k2 : ((⟨#[89]⟩ : Str) == Str.ofString "X") = false := by decide
  have k3 : (Str.ofString "y" == Str.ofString "x") = false := by decide
  refine grp_of (by decide) (by decide) w1 w2 ?_ ?_ ?_
  · rw [show readS ⟨#[89]⟩ (wordS so nu) = (regS (wordS so nu)).map (fun p => Opd.reg p.1 p.2) from rfl, r1]
  · unfold lawY keyR
    by_cases h0 : so = 0
    · subst h0
      simp only [show ¬(0 : Int) = 1 by decide, if_false, if_true, Option.map_some, Option.bind_some, okS, k1, k2, Bool.false_eq_true, List.any_cons, List.any_nil, k3, Bool.or_false, Bool.false_and, ite_self]
    · by_cases h1 : so = 1
      · subst h1
        by_cases hp : 0 < nu
        · have : (1 ≤ nu) := hp
          simp [hp, okS, this, k1, k2]
        · have : ¬(1 ≤ nu) := hp
          simp [hp, okS, this, k1, k2]
      · simp [h0, h1]
  · intro d hd
    unfold lawY at hd
    split at hd
    · split at hd
      · rename_i h0
        cases hd
        exact ⟨by simp [opT, x2 h0], ⟨by decide, x4.ok⟩, .Y _ _⟩
      · cases hd
    · cases hd
theorem grpC : Grp 67 67 [wordS so nu] (lawC (wordS so nu) so nu) (lawC (wordS so nu) so nu) := by
  refine let_goal ?_
  intro gl_P
  obtain ⟨w1, w2, _⟩ := word_all so hs nu hn
  obtain ⟨_, r1, _, _⟩ := read_all so hs nu hn
  obtain ⟨x1, _⟩ := text_all so hs nu hn
  dsimp only [gl_P]
  clear gl_P
  refine grp_of (by decide) (by decide) w1 w2 ?_ ?_ ?_
  · rw [show readS ⟨#[67]⟩ (wordS so nu) = (conS (wordS so nu)).map Opd.con from rfl, r1, lawC_key]
  · rw [lawC_key]
    cases keyC (wordS so nu) so nu <;> rfl
  · intro d hd
    rw [lawC_key] at hd
    cases q : keyC (wordS so nu) so nu with
    | none => rw [q] at hd; cases hd
    | some e =>
      rw [q] at hd x1
      cases hd
      obtain ⟨a, b⟩ := conB_ok x1
      exact ⟨by simp [opT, b], a, .C _⟩
theorem grpF : Grp 70 70 [wordS so nu] (lawF so nu) (lawF so nu) := by
  refine let_goal ?_
  intro gl_P
  obtain ⟨w1, w2, _⟩ := word_all so hs nu hn
  obtain ⟨_, _, r1, _⟩ := read_all so hs nu hn
  obtain ⟨_, x1, _⟩ := text_all so hs nu hn
  dsimp only [gl_P]
  clear gl_P
  refine grp_of (by decide) (by decide) w1 w2 ?_ ?_ ?_
  · rw [show readS ⟨#[70]⟩ (wordS so nu) = (funS (wordS so nu)).map (fun p => Opd.fn p.1 p.2) from rfl, r1, lawF_key]
  · rw [lawF_key]
    cases keyF so nu <;> rfl
  · intro d hd
    rw [lawF_key] at hd
    cases q : keyF so nu with
    | none => rw [q] at hd; cases hd
    | some e =>
      obtain ⟨y, j⟩ := e
      rw [q] at hd x1
      cases hd
      refine let_goal ?_
      intro gl_P
      obtain ⟨a, b, c, e⟩ := funB_ok x1
      dsimp only [gl_P]
      clear gl_P
      exact ⟨by simp [opT, e], ⟨a, b, c⟩, .F _ _⟩
theorem grpN {c' : Nat} (hc : Cmp 78 c') : Grp 78 c' [wordS so nu] (lawN so nu) (lawN so nu) := by
  refine let_goal ?_
  intro gl_P
  obtain ⟨w1, w2, _⟩ := word_all so hs nu hn
  obtain ⟨_, _, _, r1⟩ := read_all so hs nu hn
  obtain ⟨_, _, _, _, x1, x4, x5⟩ := text_all so hs nu hn
  dsimp only [gl_P]
  clear gl_P
  have hr : readS ⟨#[c']⟩ (wordS so nu) = (cntS (wordS so nu)).map Opd.num := by rcases hc with rfl | ⟨_, rfl⟩ <;> rfl
  refine grp_of (by rcases hc with rfl | ⟨_, rfl⟩ <;> decide) (by rcases hc with rfl | ⟨_, rfl⟩ <;> decide) w1 w2 ?_ ?_ ?_
  · rw [hr, r1, lawN_key]
  · rw [lawN_key]
    cases keyN so nu <;> rfl
  · intro d hd
    unfold lawN at hd
    split at hd
    · rename_i h2
      cases hd
      exact ⟨by simp [opT, x1 h2], x4.ok, .N _ x5⟩
    · cases hd
theorem grp_word {c c' : Nat} (hk : c ∈ [82, 88, 89, 67, 70, 78]) (hc : Cmp c c') : ∃ r0, Grp c c' [wordS so nu] r0 (lawOp c (wordS so nu) so nu) := by
  simp only [List.mem_cons, List.not_mem_nil, or_false] at hk
  have e : c = 78 ∨ c' = c := by rcases hc with h | h; exact .inr h; exact .inl h.1
  rcases hk with rfl | rfl | rfl | rfl | rfl | rfl
  · obtain rfl : c' = 82 := e.resolve_left (by decide)
    exact ⟨_, grpR hs hn⟩
  · obtain rfl : c' = 88 := e.resolve_left (by decide)
    exact ⟨_, grpX hs hn⟩
  · obtain rfl : c' = 89 := e.resolve_left (by decide)
    exact ⟨_, grpY hs hn⟩
  · obtain rfl : c' = 67 := e.resolve_left (by decide)
    exact ⟨_, grpC hs hn⟩
  · obtain rfl : c' = 70 := e.resolve_left (by decide)
    exact ⟨_, grpF hs hn⟩
  · exact ⟨_, grpN hs hn hc⟩
end
theorem off_PL4 : True := by
  w_top off
  trivial
section
variable {α : Type} [DecidableEq α] {key : Str → Option α} {es : List Str} {pt : Option (List (α × Int))}
structure Ents (key : Str → Option α) (okE : α × Int → Prop) (txt : α × Int → Str) (es : List Str) (pt : Option (List (α × Int))) : Prop where
  word : ∀ x ∈ es, WordOk x ∧ EntryOk x
  read : ∀ rest, goG key [] (es ++ rest) = pt.bind fun l => (goG key l rest).map fun p => (p.1, p.2 + es.length)
  text : ∀ l, pt = some l → l.map txt = es ∧ (∀ q ∈ l, okE q ∧ 0 ≤ q.2)
noncomputable def stepP (k : Option α) (st : Int) (pt : Option (List (α × Int))) : Option (List (α × Int)) :=
  match k, pt with
  | some d, some l => if hasK l d then none else some (l ++ [(d, st)])
  | _, _ => none
variable {okE : α × Int → Prop} {txt : α × Int → Str}
theorem Ents.nil : Ents key okE txt [] (some []) where
  word := fun _ h => nomatch h
  read := fun rest => by cases h : goG key [] rest <;> simp [h]
  text := fun l h => by cases h; exact ⟨rfl, fun _ h => nomatch h⟩
theorem Ents.snoc (h : Ents key okE txt es pt) {x y : Str} {st : Int} (hw : WordB x) (h1 : 1 ≤ colS x) (hk : keyW x = y) (hv : cntS (valW x) = some st) (hb : x ≠ Str.ofString "}") (hy : WordOk y) (h0 : 0 ≤ st)
    (ht : ∀ d, key y = some d → txt (d, st) = x ∧ okE (d, st)) : Ents key okE txt (es ++ [x]) (stepP (key y) st pt) where
  word := fun z hz => by
    rcases List.mem_append.mp hz with hz | hz
    · exact h.word z hz
    · rw [List.mem_singleton.mp hz]; exact ⟨hw.ok, hw.1, fun _ => hk ▸ hy⟩
  read := fun rest => by
    rw [List.append_assoc, h.read, List.singleton_append]
    cases pt with
    | none => cases key y <;> rfl
    | some l =>
      have e : stepG key l x = stepP (key y) st (some l) := by
        unfold stepG stepP
        rw [if_neg (by walk_at "mine om"), hk, hv]
        cases key y with
        | none => rfl
        | some d => rfl
      have hb' : ¬(x == Str.ofString "}") = true := by simpa using hb
      simp only [Option.bind_some]
      rw [goG, if_neg hb', e]
      cases stepP (key y) st (some l) with
      | none => rfl
      | some l' => simp [Function.comp_def, Nat.add_assoc, Nat.add_comm 1]
  text := fun l hl => by
    unfold stepP at hl
    split at hl
    · rename_i d l0 hd
      split at hl
      · cases hl
      · cases hl
        obtain ⟨a, b⟩ := h.text l0 rfl
        obtain ⟨c, e⟩ := ht d hd
        refine ⟨by simp [a, c], fun q hq => ?_⟩
        rcases List.mem_append.mp hq with hq | hq
        · exact b q hq
        · rw [List.mem_singleton.mp hq]; exact ⟨e, h0⟩
    · cases hl
theorem Ents.tab (h : Ents key okE txt es pt) (pre rest : List Str) : tabS key (pre ++ (Str.ofString "{" :: es ++ [Str.ofString "}"]) ++ rest) pre.length = pt.map fun l => (l, pre.length + (Str.ofString "{" :: es ++ [Str.ofString "}"]).length) := by
  have e1 : (pre ++ (Str.ofString "{" :: es ++ [Str.ofString "}"]) ++ rest).getD pre.length Str.empty = Str.ofString "{" := by simp [List.getD_eq_getElem?_getD]
  have e2 : (pre ++ (Str.ofString "{" :: es ++ [Str.ofString "}"]) ++ rest).drop (pre.length + 1) = es ++ (Str.ofString "}" :: rest) := by
    rw [show pre ++ (Str.ofString "{" :: es ++ [Str.ofString "}"]) ++ rest = (pre ++ [Str.ofString "{"]) ++ (es ++ (Str.ofString "}" :: rest)) by simp]
    rw [List.drop_left' (by first | walk_at "mine mem1" | simp)]
  unfold tabS
  rw [e1, e2, h.read, if_neg (by first | walk_at "mine mem1" | simp)]
  cases pt with
  | none => rfl
  | some l =>
    have : goG key l (Str.ofString "}" :: rest) = some (l, 0) := by rw [goG, if_pos (by first | walk_at "mine mem1" | simp)]
    simp [this]; walk_at "mine om"
end
section
variable {so nu st : Int} (hs : so ∈ sortL) (hn : nu ∈ numL) (ht : st ∈ stepL)
include hs hn ht
theorem entT_snoc {es : List Str} {pt : Option (List ((Int ⊕ Str) × Int))} (h : Ents conS EntTOk entT es pt) : Ents conS EntTOk entT (es ++ [entS so nu st]) (stepP (keyC (wordS so nu) so nu) st pt) := by
  refine let_goal ?_
  intro gl_P
  obtain ⟨w1, _⟩ := word_all so hs nu hn
  obtain ⟨_, r1, _⟩ := read_all so hs nu hn
  obtain ⟨x1, _⟩ := text_all so hs nu hn
  obtain ⟨e1, e2, e3, e4, e5⟩ := ent_all so hs nu hn st ht
  obtain ⟨t1, t2, t3⟩ := etext_all so hs nu hn st ht
  dsimp only [gl_P]
  clear gl_P
  rw [← r1] at x1 ⊢
  refine h.snoc e1 e2 e3 e4 e5 w1.ok ?_ fun d hd => ?_
  · exact (by decide : ∀ x ∈ stepL, (0 : Int) ≤ x) st ht
  · rw [hd] at x1
    obtain ⟨a, b⟩ := conB_ok x1
    exact ⟨by unfold entT; rw [b]; exact t1, a, by rw [b]; walk_at "mine om", t2.ok⟩
theorem entU_snoc {es : List Str} {pt : Option (List ((Str × Int) × Int))} (h : Ents funS EntUOk entU es pt) : Ents funS EntUOk entU (es ++ [entS so nu st]) (stepP (keyF so nu) st pt) := by
  refine let_goal ?_
  intro gl_P
  obtain ⟨w1, _⟩ := word_all so hs nu hn
  obtain ⟨_, _, r1, _⟩ := read_all so hs nu hn
  obtain ⟨_, x1, _⟩ := text_all so hs nu hn
  obtain ⟨e1, e2, e3, e4, e5⟩ := ent_all so hs nu hn st ht
  obtain ⟨t1, t2, t3⟩ := etext_all so hs nu hn st ht
  dsimp only [gl_P]
  clear gl_P
  rw [← r1] at x1 ⊢
  refine h.snoc e1 e2 e3 e4 e5 w1.ok ?_ fun d hd => ?_
  · exact (by decide : ∀ x ∈ stepL, (0 : Int) ≤ x) st ht
  · obtain ⟨y, j⟩ := d
    rw [hd] at x1
    refine let_goal ?_
    intro gl_P
    obtain ⟨a, b, c, e⟩ := funB_ok x1
    dsimp only [gl_P]
    clear gl_P
    exact ⟨by unfold entU; rw [e]; exact t1, ⟨a, b, c, by rw [e]; walk_at "mine om", t2.ok⟩⟩
end
theorem grpT {es : List Str} {pt : Option (List ((Int ⊕ Str) × Int))} (h : Ents conS EntTOk entT es pt) (hz : es.length ≤ 3) : Grp 84 84 (Str.ofString "{" :: es ++ [Str.ofString "}"]) (pt.map .tabT) (pt.map .tabT) where
  pos := by simp
  short := by simp; walk_at "mine om"
  word := fun x hx => by
    refine let_goal ?_
    intro gl_P
    obtain ⟨b1, b2, _, b4, b5, _⟩ := brace_ok
    dsimp only [gl_P]
    clear gl_P
    simp only [List.cons_append, List.mem_cons, List.mem_append, List.not_mem_nil, or_false] at hx
    rcases hx with rfl | hx | rfl
    · exact ⟨b1.ok, entryOk_of b1 b4⟩
    · exact h.word x hx
    · exact ⟨b2.ok, entryOk_of b2 b5⟩
  read := fun pre rest => by
    show (tabS conS _ _).map _ = _
    rw [h.tab]; cases pt <;> rfl
  same := by cases pt <;> rfl
  text := fun d hd => by
    cases pt with
    | none => cases hd
    | some l =>
      cases hd
      obtain ⟨a, b⟩ := h.text l rfl
      have hl : l.length = es.length := by rw [← a]; simp
      exact ⟨by simp [opT, a], ⟨by walk_at "mine om", fun q hq => (b q hq).1⟩, .T _ fun q hq => (b q hq).2⟩
  one := fun h1 _ => absurd rfl h1
theorem grpU {es : List Str} {pt : Option (List ((Str × Int) × Int))} (h : Ents funS EntUOk entU es pt) (hz : es.length ≤ 3) : Grp 85 85 (Str.ofString "{" :: es ++ [Str.ofString "}"]) (pt.map .tabU) (pt.map .tabU) where
  pos := by simp
  short := by simp; walk_at "mine om"
  word := fun x hx => by
    refine let_goal ?_
    intro gl_P
    obtain ⟨b1, b2, _, b4, b5, _⟩ := brace_ok
    dsimp only [gl_P]
    clear gl_P
    simp only [List.cons_append, List.mem_cons, List.mem_append, List.not_mem_nil, or_false] at hx
    rcases hx with rfl | hx | rfl
    · exact ⟨b1.ok, entryOk_of b1 b4⟩
    · exact h.word x hx
    · exact ⟨b2.ok, entryOk_of b2 b5⟩
  read := fun pre rest => by
    show (tabS funS _ _).map _ = _
    rw [h.tab]; cases pt <;> rfl
  same := by cases pt <;> rfl
  text := fun d hd => by
    cases pt with
    | none => cases hd
    | some l =>
      cases hd
      obtain ⟨a, b⟩ := h.text l rfl
      have hl : l.length = es.length := by rw [← a]; simp
      exact ⟨by simp [opT, a], ⟨by walk_at "mine om", fun q hq => (b q hq).1⟩, .U _ fun q hq => (b q hq).2⟩
  one := fun _ h1 => absurd rfl h1
noncomputable def formK (nm ks : Str) : Str := match PySem.Spec.lookup (.str nm) (datS shapesL) with
  | some (.str x) => x
  | _ => ks
noncomputable abbrev lawKinds : List Nat := [84, 85, 82, 88, 89, 67, 70, 78]
noncomputable abbrev RowOk (p : Str × Str) : Prop := p.1.length ≤ 30 ∧ p.2.length ≤ 4 ∧ (∀ c ∈ p.2.cps.toList, c ∈ lawKinds) ∧ (formK p.1 p.2).length = p.2.length ∧ ((p.2.cps.toList.zip (formK p.1 p.2).cps.toList).all fun q => decide (Cmp q.1 q.2)) = true ∧
  (p.2.cps.toList.getLast? ≠ some 84 ∧ p.2.cps.toList.getLast? ≠ some 85) ∧ (∀ c ∈ (formK p.1 p.2).cps.toList, c ∈ kindL)
theorem row_all : ∀ p ∈ rowsS, RowOk p := by decide +kernel
noncomputable def lookS (nm : Str) : Option Str := match PySem.Spec.lookup (.str nm) (datS shapesL) with
  | some (.str x) => some x
  | _ => none
theorem row_look : ∀ p ∈ rowsS, if p.1 = Str.ofString "jump" then (PySem.Spec.lookup (.str p.1) (datS shapesL)).isSome = false else lookS p.1 = some (formK p.1 p.2) := by decide +kernel
theorem lookS_some {nm x : Str} (h : lookS nm = some x) : PySem.Spec.lookup (.str nm) (datS shapesL) = some (.str x) := by
  unfold lookS at h
  split at h
  · rename_i e; cases h; exact e
  · cases h
theorem rowsS_len : rowsS.length = 46 := by decide +kernel
theorem cmp_get {a b : List Nat} {i c : Nat} (hz : ((a.zip b).all fun q => decide (Cmp q.1 q.2)) = true) (hl : b.length = a.length) (h : a[i]? = some c) : ∃ c', b[i]? = some c' ∧ Cmp c c' := by
  induction a generalizing b i with
  | nil => exact nomatch (h : none = some c)
  | cons x a ih =>
    cases b with
    | nil => exact nomatch (hl : 0 = a.length + 1)
    | cons y b =>
      have hz' := Bool.and_eq_true_iff.mp (hz : (decide (Cmp x y) && ((a.zip b).all fun q => decide (Cmp q.1 q.2))) = true)
      cases i with
      | zero => exact ⟨y, rfl, Option.some.inj h ▸ of_decide_eq_true hz'.1⟩
      | succ i => exact ih (b := b) (i := i) hz'.2 (Nat.succ.inj hl) h
end
section
theorem words_J38 : True := by
  k_with "J38 subscriptTail" => first | refine item_first (Fr.tup (by assumption) (by assumption)) ?_ (by with_unfolding_all rfl) (by intro _; with_unfolding_all rfl) | refine item_second (Fr.tup (by assumption) (by assumption)) ?_ (by with_unfolding_all rfl) (by intro _; with_unfolding_all rfl) | refine Hold.in ?_
  k_with "J38 exec If" => ((with_reducible show wpAny _ _ (exec (Stmt.If (PySem.Expr.BoolOp BoolOp.Or [_, _, _] _) _ _ _) _) _ _ _); (have zz_w := (by assumption : Mark 3)); clear zz_w; refine Hold.in ?_)
  trivial
local macro_rules | `(tactic| walk_at $s) => fwd "J38 " s
theorem off_IW1 : True := by
  w_top off
  trivial
theorem tab_spec {w : World} {mean : ExcName → Option Value} {mg mb : Str → Option Value} {a : SymA} {st : SymSt} {c : Nat} {sy : List (Addr × Obj)} {k : Str} {d : Opd} {v : Value} {own : List (Addr × Obj)} (g4 : Fits k d) (g5 : OpV w st d v own) (hd : OpdOk d) (ht : (∃ l, d = Opd.tabT l) ∨ ∃ l, d = Opd.tabU l) (hoff : ∀ q ∈ own, q.1 ∉ (symR w a sy).map (·.1)) :
    ∃ D, v = .ref D ∧ (opT d).length ≤ 102 ∧ ((k == Str.ofString "R") = false ∧ (k == Str.ofString "X") = false ∧ (k == Str.ofString "Y") = false ∧ (k == Str.ofString "C") = false ∧ (k == Str.ofString "F") = false ∧ (k == Str.ofString "N") = false ∧ (k == Str.ofString "L") = false) ∧
      ∀ u, Spec w mean mg mb 327 [.ref a.s, .ref D, .str k u] (symR w a sy) 12 180 (fun h => SyP w a st c sy ∧ c < 10000 ∧ Held own h) (SyPostO w a c sy (WordsV (opT d) st)) NoExc := by
  rcases ht with ⟨l, rfl⟩ | ⟨l, rfl⟩
  · cases g4 with
    | T _ hl =>
      cases g5 with
      | @tabT _ ks9 DD oo low xx => exact ⟨DD, rfl, opT_len hd, by decide, fun u => table_words_T w mean mg mb a st c sy DD u oo l ks9 low xx hd.1 hd.2 hoff⟩
  · cases g4 with
    | U _ hl =>
      cases g5 with
      | @tabU _ DD oo low xx => exact ⟨DD, rfl, opT_len hd, by decide, fun u => table_words_U w mean mg mb a st c sy DD u oo l low xx hd.1 hd.2 hoff⟩
theorem fits_reg {k y : Str} {j : Int} (h : Fits k (.reg y j)) : ((k == Str.ofString "R") || ((k == Str.ofString "X") || (k == Str.ofString "Y"))) = true := by
  cases h <;> decide
set_option maxHeartbeats 8000000 in
theorem instruction_words_spec (w mean mg mb) (a : SymA) (st : SymSt) (c : Nat) (sy : List (Addr × Obj)) (p : Addr) (nm ks : Str) (t u : Tok) (vs : List Value) (ds : List Opd) (own : List (Addr × Obj)) (hks : ks.length ≤ 10) (hkk : ∀ x ∈ ks.cps.toList, x ≠ 76) (hvs : OpsV w st ks.cps.toList ds vs own) (hok : ∀ d ∈ ds, OpdOk d) (hoff : ∀ q ∈ (p, ({ cls := .type "tuple", data := .seq (Value.str nm t :: vs).toArray } : Obj)) :: own, q.1 ∉ (symR w a sy).map (·.1)) :
    Spec w mean mg mb 334 [.ref a.s, .ref p, .str ks u] (symR w a sy) 16 240 (fun h => SyP w a st c sy ∧ c < 10000 ∧ Held ((p, ({ cls := .type "tuple", data := .seq (Value.str nm t :: vs).toArray } : Obj)) :: own) h) (SyPostO w a c sy (WordsV (nm :: ds.flatMap opT) st)) NoExc := by
  obtain ⟨as, ad, a1, a2, a3, a4, k1, k2, k3, k4⟩ := a
  refine Spec.of ?_
  intro dp un gd cn cs a ccd cl outer A₀ base h₀ L m hh gn dr tk os Q E B F X N T hk hd hu hpre hret hthr
  have hB : Bind [(Str.ofString "symbols", Value.ref as), (Str.ofString "ins", Value.ref p), (Str.ofString "kinds", Value.str ks u)] := .is
  obtain ⟨P, hc, hH⟩ := hpre
  dsimp only [symR, symI, symJ] at *
  walk_at "mine enter"
  have ht := isTup_of ((‹Keeps hh _ _› : Keeps hh _ _) _ _ (hH _ (.head _)) (hoff _ (.head _)))
  have hown : Held own _ := fun q hq => (‹Keeps hh _ _› : Keeps hh _ _) _ _ (hH q (.tail _ hq)) (hoff q (.tail _ hq))
  have hcl : ks.cps.toList.length = ks.length := by simp [Str.length]
  have hvl : vs.length ≤ 10 := by rw [hvs.len.2, hcl]; exact hks
  have hdl : ds.length ≤ 10 := by rw [hvs.len.1, hcl]; exact hks
  k_steps
  walk_at "mine for"
  unfold Hold
  rename Fr _ _ _ _ => lF'
  rename News _ _ _ _ => lN'
  rename _ ∧ _ ∧ AllLt _ _ => l1
  obtain ⟨WL, hWL, _⟩ : ∃ x : Addr, x = _ ∧ News _ _ _ ((x, W.listOf _ _) :: _) := ⟨_, rfl, lN'⟩
  subst hWL
  rename IsRange _ _ _ _ _ _ _ _ => hrng
  refine' range_s (σ := TwS) (n := ks.length) (fun q => (WL, W.listOf q.its q.n) :: (as, instObj 155 ad) :: (ad, dictOf (symE w a1 a2 a3 a4 k1 k2 k3 k4) 4) :: q.sy) (fun _ => []) [Str.ofString "kind", Str.ofString "value", Str.ofString "word"]
    (fun i q => StrsAre q.its.toList (nm :: (ds.take i).flatMap opT) ∧ SyP w ⟨as, ad, a1, a2, a3, a4, k1, k2, k3, k4⟩ st c q.sy ∧ (∀ x ∈ q.sy, x.1 ≠ WL))
    ⟨_, _, sy⟩ rfl hrng (small10 _ hks) (size10 _ hks) lF' lN' (fun _ h => nomatch h) ?hinv ?turn ?done
  case hinv => exact ⟨.cons _ _ .nil, P, AllLt.off l1.2.2⟩
  case turn =>
    rintro i ti ⟨its, n, sy2⟩ uu h2 tk2 it hi hI0 hA F2 N2
    with_reducible refine and3 hI0 fun q1 q2 q3 => ?_
    clear hI0
    (try dsimp only at *)
    clear lF' lN'
    refine let_goal ?_
    intro gl_P
    obtain ⟨cc, d, v, own', g1, g2, g3, g4, g5, g6⟩ := hvs.get (i := i) (by rw [hcl]; exact hi)
    dsimp only [gl_P]
    clear gl_P
    have hown' : Held own' _ := fun q hq => hown q (g6 q hq)
    have hdk := hok d (List.mem_of_getElem? g2)
    have hk0 := item_code g1
    obtain ⟨kk, hkq⟩ : ∃ kk, kk = (⟨#[cc]⟩ : Str) := ⟨_, rfl⟩
    rw [← hkq] at g4 hk0
    have hne := hkk cc (List.mem_of_getElem? g1)
    have hits : its.size ≤ 16000 := by
      have h1 := flat_len (ds := ds.take i) fun d hd => hok d (List.mem_of_mem_take hd)
      have h2 := List.length_take_le i ds
      exact Nat.le_trans (Nat.le_of_eq (strsAre_size q1)) (Nat.le_trans (Nat.succ_le_succ (Nat.le_trans h1 (Nat.mul_le_mul_left 102 (Nat.le_trans h2 (Nat.le_trans (Nat.le_of_lt ‹i < ks.length›) ‹ks.length ≤ 10›))))) (by decide))
    have hfz : ∀ b o, Heap.get? _ b = some o → b ∉ (symR w ⟨as, ad, a1, a2, a3, a4, k1, k2, k3, k4⟩ sy2).map (·.1) := fun b o ho => off_frozen N2 (fun p hp => List.mem_append.mpr (.inl (.tail _ hp))) ho
    replace N2 : News _ _ _ ((WL, W.listOf its n) :: (as, instObj 155 ad) :: (ad, dictOf (symE w a1 a2 a3 a4 k1 k2 k3 k4) 4) :: (sy2 ++ it)) := N2
    have hoff2 : ∀ q ∈ (WL, W.listOf its n) :: it, ∀ p ∈ symR w ⟨as, ad, a1, a2, a3, a4, k1, k2, k3, k4⟩ sy2, p.1 ≠ q.1 := by
      refine List.forall_mem_cons.mpr ⟨List.forall_mem_cons.mpr ⟨Nat.ne_of_lt l1.1, List.forall_mem_cons.mpr ⟨Nat.ne_of_lt l1.2.1, q3⟩⟩, fun q hq p hp => ?_⟩
      exact fun e => hA q hq p.1 (List.mem_map.mpr ⟨p, .tail _ hp, rfl⟩) e.symm
    have hoffW : ∀ p ∈ (as, instObj 155 ad) :: (ad, dictOf (symE w a1 a2 a3 a4 k1 k2 k3 k4) 4) :: (sy2 ++ it), p.1 ≠ WL := by
      refine List.forall_mem_cons.mpr ⟨Nat.ne_of_lt l1.1, List.forall_mem_cons.mpr ⟨Nat.ne_of_lt l1.2.1, fun p hp => ?_⟩⟩
      rcases List.mem_append.mp hp with hp | hp
      · exact q3 p hp
      · exact hA p hp _ (.head _)
    have htake : ds.take (i + 1) = ds.take i ++ [d] := by rw [List.take_add_one, g2]; rfl
    k_steps
    unfold Hold
    refine item_next (Fr.tup (by assumption) ht) g3 (by walk_at "mine om") (by walk_at "mine om") ?_ (by with_unfolding_all rfl) (by intro _; with_unfolding_all rfl)
    by_cases hregk : ∃ y j, d = Opd.reg y j
    · obtain ⟨y, j, rfl⟩ := hregk
      have hreg : ((Txt.item ks (0 + (i : Int) * 1) == Str.ofString "R") || ((Txt.item ks (0 + (i : Int) * 1) == Str.ofString "X") || (Txt.item ks (0 + (i : Int) * 1) == Str.ofString "Y"))) = true := by rw [hk0]; exact fits_reg g4
      clear g4 hk0
      refine let_goal ?_
      intro gl_P
      obtain ⟨hy5, ⟨hjlo, hjhi, hjdig, hjlen⟩⟩ := hdk
      dsimp only [gl_P]
      clear gl_P
      cases g5 with
      | reg _ _ pp t1 t2 =>
      have htp := isTup_of (hown' _ (.head _))
      have mk : Mark 3 := trivial
      k_steps
      clear mk
      unfold Hold
      with_reducible refine' if_sym ((Txt.item ks (0 + (i : Int) * 1) == Str.ofString "R") || ((Txt.item ks (0 + (i : Int) * 1) == Str.ofString "X") || (Txt.item ks (0 + (i : Int) * 1) == Str.ofString "Y"))) ?ht (fun hb tk9 => ?_) (fun hb tk9 => absurd (hb.symm.trans hreg) (by decide))
      case ht =>
        intro R9 hR9
        k_steps
        all_goals exact sym_leaf hR9 (by simp_all)
      k_steps
      unfold Hold
      refine append_head (by assumption) (by assumption) hoffW (by walk_at "mine om") (fun h8 F8 N8 => ?_)
      k_steps
      obtain ⟨tv, N7⟩ : ∃ tv, News _ _ _ ((WL, W.listOf (its.push (.str (y ++ numT j) tv)) (n + 1)) :: (as, instObj 155 ad) :: (ad, dictOf (symE w a1 a2 a3 a4 k1 k2 k3 k4) 4) :: (sy2 ++ it)) := ⟨_, by assumption⟩
      refine TurnS.next (⟨its.push (.str (y ++ numT j) tv), n + 1, sy2⟩ : TwS) (by assumption) N7 (fun p hp => hp) hA ⟨?_, q2, q3⟩ (fun _ h => nomatch h) (by walk_at "mine same")
      (try dsimp only)
      rw [htake, List.flatMap_append, ← List.cons_append]
      exact strsAre_push q1
    by_cases htab : (∃ l, d = Opd.tabT l) ∨ ∃ l, d = Opd.tabU l
    · obtain ⟨DD, hvD, hlen2, ⟨fR, fX, fY, fC, fF, fN, fL⟩, hS⟩ := tab_spec (w := w) (mean := mean) (mg := mg) (mb := mb) (a := ⟨as, ad, a1, a2, a3, a4, k1, k2, k3, k4⟩) (st := st) (c := c) (sy := sy2) g4 g5 hdk htab (fun q hq => hfz _ _ (hown' q hq))
      subst hvD
      have eR : (Txt.item ks (0 + (i : Int) * 1) == Str.ofString "R") = false := by rw [hk0]; exact fR
      have eX : (Txt.item ks (0 + (i : Int) * 1) == Str.ofString "X") = false := by rw [hk0]; exact fX
      have eY : (Txt.item ks (0 + (i : Int) * 1) == Str.ofString "Y") = false := by rw [hk0]; exact fY
      have eC : (Txt.item ks (0 + (i : Int) * 1) == Str.ofString "C") = false := by rw [hk0]; exact fC
      have eF : (Txt.item ks (0 + (i : Int) * 1) == Str.ofString "F") = false := by rw [hk0]; exact fF
      have eN : (Txt.item ks (0 + (i : Int) * 1) == Str.ofString "N") = false := by rw [hk0]; exact fN
      have eL : (Txt.item ks (0 + (i : Int) * 1) == Str.ofString "L") = false := by rw [hk0]; exact fL
      k_steps
      walk_at "mine for"
      rename News _ _ _ _ => N4
      have N3 := news_sub N4 (mem_tw (w := w) (a := ⟨as, ad, a1, a2, a3, a4, k1, k2, k3, k4⟩) (P := (WL, W.listOf its n)) (sy := sy2) (it := it))
      rw [hk0]
      refine' Spec.useOh (R := (WL, W.listOf its n) :: it) (hS _) (fun _ _ _ z => z) ?k1 ?k2 ?k3 N3 ?k5 ?kK ?kd ?ku ?kp hoff2 ?_ ?_
      case k1 => k_asm
      case k2 => k_asm
      case k3 => k_asm
      case k5 => k_asm
      case kK => first | exact rfl | assumption
      case kd => ktr_room
      case ku => ktr_units
      case kp => exact ⟨q2, hc, fun q hq => Fr.keep (by assumption) _ _ (hown' q hq)⟩
      · intro v9 h9 tk9 own9 st9 sy9 qq P9 F9 N9 O9 D9 S9
        refine let_goal ?_
        intro gl_P
        obtain ⟨tw, its9, n9, e9, eo9, w9, e8⟩ := qq
        dsimp only [gl_P]
        clear gl_P
        subst eo9
        subst e9
        subst e8
        have o4 := tw_off (w := w) (a := ⟨as, ad, a1, a2, a3, a4, k1, k2, k3, k4⟩) hA O9
        have N10 := news_sub N9 (mem_iwb (w := w) (a := ⟨as, ad, a1, a2, a3, a4, k1, k2, k3, k4⟩) (P := (WL, W.listOf its n)) (it := it))
        clear N9 N3 N4
        dsimp only [symI, symJ] at N10
        have hoffW9 : ∀ p ∈ (as, instObj 155 ad) :: (ad, dictOf (symE w a1 a2 a3 a4 k1 k2 k3 k4) 4) :: (sy9 ++ it), p.1 ≠ WL := by
          refine List.forall_mem_cons.mpr ⟨Nat.ne_of_lt l1.1, List.forall_mem_cons.mpr ⟨Nat.ne_of_lt l1.2.1, fun p hp => ?_⟩⟩
          rcases List.mem_append.mp hp with hp | hp
          · exact O9 p hp _ (.head _)
          · exact hA p hp _ (.head _)
        have hoffT : ∀ p ∈ (WL, W.listOf its n) :: (as, instObj 155 ad) :: (ad, dictOf (symE w a1 a2 a3 a4 k1 k2 k3 k4) 4) :: (sy9 ++ it), p.1 ≠ tw := by
          refine List.forall_mem_cons.mpr ⟨fun e => D9 _ (.head _) _ (.head _) e.symm, List.forall_mem_cons.mpr ⟨S9 _ (.head _) _ (.head _), List.forall_mem_cons.mpr ⟨S9 _ (.head _) _ (.tail _ (.head _)), fun p hp => ?_⟩⟩⟩
          rcases List.mem_append.mp hp with hp | hp
          · exact S9 _ (.head _) p (.tail _ (.tail _ hp))
          · exact fun e => D9 p (.tail _ hp) _ (.head _) e.symm
        (try k_fold)
        k_sweep
        k_steps
        unfold Hold
        rename Fr _ _ _ _ => lF9
        rename News _ _ _ _ => lN9
        have hw9 := strsAre_size w9
        refine' list_s (σ := IwS) (l := tw) (vs := its9) (fun q => (WL, W.listOf q.its q.n) :: (as, instObj 155 ad) :: (ad, dictOf (symE w a1 a2 a3 a4 k1 k2 k3 k4) 4) :: (sy9 ++ it)) (fun _ => []) []
          (fun r q => StrsAre q.its.toList ((nm :: (ds.take i).flatMap opT) ++ (opT d).take r))
          ⟨its, n⟩ rfl ⟨_, (lN9 _ (.tail _ (.head _))).1, rfl, n9, rfl⟩ (lN9 _ (.tail _ (.head _))).2.1 hoffT lF9 (news_sub lN9 (mem_iwc (w := w) (a := ⟨as, ad, a1, a2, a3, a4, k1, k2, k3, k4⟩))) (fun _ h => nomatch h) ?hinv2 ?turn2 ?done2
        case hinv2 => simpa using q1
        case turn2 =>
          rintro r v ⟨its2, n2⟩ uu2 h3 tk3 it3 hv hI3 hA3 hl3 F3 N3
          (try dsimp only at *)
          clear lF9 lN9
          refine let_goal ?_
          intro gl_P
          obtain ⟨x3, t3, hx3, e3⟩ := strsAre_at w9 (by simpa using hv)
          dsimp only [gl_P]
          clear gl_P
          subst e3
          k_steps
          unfold Hold
          have hits2 : its2.size ≤ 16384 := by
            have h4 := strsAre_size q1
            have h5 := List.length_take_le' r (opT d)
            rw [strsAre_size hI3, List.length_append]
            walk_at "mine om"
          refine append_head (by assumption) (by assumption) ?_ hits2 (fun h8 F8 N8 => ?_)
          · refine List.forall_mem_cons.mpr ⟨Nat.ne_of_lt l1.1, List.forall_mem_cons.mpr ⟨Nat.ne_of_lt l1.2.1, fun p hp => ?_⟩⟩
            rcases List.mem_append.mp hp with hp | hp
            · exact hoffW9 p (.tail _ (.tail _ hp))
            · exact hA3 p hp _ (.head _)
          k_steps
          refine TurnS.next (⟨its2.push (.str x3 t3), n2 + 1⟩ : IwS) (by assumption) (by assumption) (fun p hp => hp) hA3 ?_ (fun _ h => nomatch h) (by walk_at "mine same")
          (try dsimp only)
          have e : (opT d).take (r + 1) = (opT d).take r ++ [x3] := by
            rw [List.take_add_one, show (opT d)[r]? = some x3 from hx3]; rfl
          rw [e, ← List.append_assoc]
          exact strsAre_push hI3
        case done2 =>
          rintro ⟨its2, n2⟩ uu2 h3 tk3 hI3 F3 N3
          (try dsimp only at *)
          clear lF9 lN9
          k_steps
          refine TurnS.next (⟨its2, n2, sy9⟩ : TwS) (by assumption) (by assumption) (fun p hp => hp) o4 ⟨?_, P9, fun x hx => O9 x hx _ (.head _)⟩ (fun _ h => nomatch h) (by walk_at "mine same")
          (try dsimp only)
          have e : (opT d).take its9.size = opT d := List.take_of_length_le (by rw [hw9]; exact Nat.le_refl _)
          rw [e] at hI3
          rw [htake, List.flatMap_append]
          simpa using hI3
      · intro e9 h9 tk9 T9
        refine let_goal ?_
        intro gl_P
        obtain ⟨_, _, _, x9, _⟩ := T9
        dsimp only [gl_P]
        clear gl_P
        exact x9.elim
    cases g4 with
    | R y j => exact absurd ⟨y, j, rfl⟩ hregk
    | X y j => exact absurd ⟨y, j, rfl⟩ hregk
    | Y y j => exact absurd ⟨y, j, rfl⟩ hregk
    | C d' =>
      have eR : (Txt.item ks (0 + (i : Int) * 1) == Str.ofString "R") = false := by rw [hk0]; decide
      have eX : (Txt.item ks (0 + (i : Int) * 1) == Str.ofString "X") = false := by rw [hk0]; decide
      have eY : (Txt.item ks (0 + (i : Int) * 1) == Str.ofString "Y") = false := by rw [hk0]; decide
      have eC : (Txt.item ks (0 + (i : Int) * 1) == Str.ofString "C") = true := by rw [hk0]; decide
      cases g5 with
      | con pp t1 t2 hcon =>
      have htp := isTup_of (hown' _ (.head _))
      have hp2 := hfz _ _ (hown' _ (.head _))
      k_steps
      rename News _ _ _ _ => N4
      have N3 := news_sub N4 (mem_tw (w := w) (a := ⟨as, ad, a1, a2, a3, a4, k1, k2, k3, k4⟩) (P := (WL, W.listOf its n)) (sy := sy2) (it := it))
      refine' Spec.useOh (R := (WL, W.listOf its n) :: it) (constant_text_spec _ _ _ _ ⟨as, ad, a1, a2, a3, a4, k1, k2, k3, k4⟩ st c sy2 pp _ _ t1 t2 d' hcon hdk hp2) (fun _ _ _ z => SyPost.toO z) ?k1 ?k2 ?k3 N3 ?k5 ?kK ?kd ?ku ?kp hoff2 ?_ ?_
      case k1 => k_asm
      case k2 => k_asm
      case k3 => k_asm
      case k5 => k_asm
      case kK => first | exact rfl | assumption
      case kd => ktr_room
      case ku => ktr_units
      case kp => exact ⟨q2, hc, isTup_of (Fr.keep (by assumption) _ _ (hown' _ (.head _)))⟩
      · intro v9 h9 tk9 own9 st9 sy9 qq P9 F9 N9 O9 D9 S9
        refine let_goal ?_
        intro gl_P
        obtain ⟨eo9, ⟨t9, e9⟩, e8⟩ := qq
        dsimp only [gl_P]
        clear gl_P
        subst eo9
        subst e9
        subst e8
        have o4 := tw_off (w := w) (a := ⟨as, ad, a1, a2, a3, a4, k1, k2, k3, k4⟩) hA O9
        have N10 := news_sub N9 (mem_twb (w := w) (a := ⟨as, ad, a1, a2, a3, a4, k1, k2, k3, k4⟩) (P := (WL, W.listOf its n)) (it := it))
        clear N9 N3 N4
        dsimp only [symI, symJ] at N10
        have hoffW9 : ∀ p ∈ (as, instObj 155 ad) :: (ad, dictOf (symE w a1 a2 a3 a4 k1 k2 k3 k4) 4) :: (sy9 ++ it), p.1 ≠ WL := by
          refine List.forall_mem_cons.mpr ⟨Nat.ne_of_lt l1.1, List.forall_mem_cons.mpr ⟨Nat.ne_of_lt l1.2.1, fun p hp => ?_⟩⟩
          rcases List.mem_append.mp hp with hp | hp
          · exact O9 p hp _ (.head _)
          · exact hA p hp _ (.head _)
        (try k_fold)
        k_sweep
        k_steps
        unfold Hold
        refine append_head (by assumption) (by assumption) hoffW9 (by first | exact iw_a hits (by assumption) (by assumption) (by assumption) | walk_at "mine om") (fun h8 F8 N8 => ?_)
        k_steps
        obtain ⟨tv, N7⟩ : ∃ tv, News _ _ _ ((WL, W.listOf (its.push (.str (conT d') tv)) (n + 1)) :: (as, instObj 155 ad) :: (ad, dictOf (symE w a1 a2 a3 a4 k1 k2 k3 k4) 4) :: (sy9 ++ it)) := ⟨_, by assumption⟩
        refine TurnS.next (⟨its.push (.str (conT d') tv), n + 1, sy9⟩ : TwS) (by assumption) N7 (fun p hp => hp) o4 ⟨?_, P9, fun x hx => O9 x hx _ (.head _)⟩ (fun _ h => nomatch h) (by walk_at "mine same")
        (try dsimp only)
        rw [htake, List.flatMap_append, ← List.cons_append]
        exact strsAre_push q1
      · intro e9 h9 tk9 T9
        refine let_goal ?_
        intro gl_P
        obtain ⟨_, _, _, x9, _⟩ := T9
        dsimp only [gl_P]
        clear gl_P
        exact x9.elim
    | F y j =>
      have eR : (Txt.item ks (0 + (i : Int) * 1) == Str.ofString "R") = false := by rw [hk0]; decide
      have eX : (Txt.item ks (0 + (i : Int) * 1) == Str.ofString "X") = false := by rw [hk0]; decide
      have eY : (Txt.item ks (0 + (i : Int) * 1) == Str.ofString "Y") = false := by rw [hk0]; decide
      have eC : (Txt.item ks (0 + (i : Int) * 1) == Str.ofString "C") = false := by rw [hk0]; decide
      have eF : (Txt.item ks (0 + (i : Int) * 1) == Str.ofString "F") = true := by rw [hk0]; decide
      refine let_goal ?_
      intro gl_P
      obtain ⟨hna, hns, ⟨hj1, hj2, hj3, hj4⟩⟩ := hdk
      dsimp only [gl_P]
      clear gl_P
      cases g5 with
      | fn t1 hy0 hf0 =>
      k_steps
      rename News _ _ _ _ => N4
      have N3 := news_sub N4 (mem_tw (w := w) (a := ⟨as, ad, a1, a2, a3, a4, k1, k2, k3, k4⟩) (P := (WL, W.listOf its n)) (sy := sy2) (it := it))
      refine' Spec.useOh (R := (WL, W.listOf its n) :: it) (functor_text_spec _ _ _ _ ⟨as, ad, a1, a2, a3, a4, k1, k2, k3, k4⟩ st c sy2 _ _ t1 y j hf0 hy0 hna hns hj1 hj2 hj3 hj4) (fun _ _ _ z => SyPost.toO z) ?k1 ?k2 ?k3 N3 ?k5 ?kK ?kd ?ku ?kp hoff2 ?_ ?_
      case k1 => k_asm
      case k2 => k_asm
      case k3 => k_asm
      case k5 => k_asm
      case kK => first | exact rfl | assumption
      case kd => ktr_room
      case ku => ktr_units
      case kp => exact ⟨q2, hc⟩
      · intro v9 h9 tk9 own9 st9 sy9 qq P9 F9 N9 O9 D9 S9
        refine let_goal ?_
        intro gl_P
        obtain ⟨eo9, ⟨t9, e9⟩, e8⟩ := qq
        dsimp only [gl_P]
        clear gl_P
        subst eo9
        subst e9
        subst e8
        have o4 := tw_off (w := w) (a := ⟨as, ad, a1, a2, a3, a4, k1, k2, k3, k4⟩) hA O9
        have N10 := news_sub N9 (mem_twb (w := w) (a := ⟨as, ad, a1, a2, a3, a4, k1, k2, k3, k4⟩) (P := (WL, W.listOf its n)) (it := it))
        clear N9 N3 N4
        dsimp only [symI, symJ] at N10
        have hoffW9 : ∀ p ∈ (as, instObj 155 ad) :: (ad, dictOf (symE w a1 a2 a3 a4 k1 k2 k3 k4) 4) :: (sy9 ++ it), p.1 ≠ WL := by
          refine List.forall_mem_cons.mpr ⟨Nat.ne_of_lt l1.1, List.forall_mem_cons.mpr ⟨Nat.ne_of_lt l1.2.1, fun p hp => ?_⟩⟩
          rcases List.mem_append.mp hp with hp | hp
          · exact O9 p hp _ (.head _)
          · exact hA p hp _ (.head _)
        (try k_fold)
        k_sweep
        k_steps
        unfold Hold
        refine append_head (by assumption) (by assumption) hoffW9 (by first | exact iw_a hits (by assumption) (by assumption) (by assumption) | walk_at "mine om") (fun h8 F8 N8 => ?_)
        k_steps
        obtain ⟨tv, N7⟩ : ∃ tv, News _ _ _ ((WL, W.listOf (its.push (.str (funT y j) tv)) (n + 1)) :: (as, instObj 155 ad) :: (ad, dictOf (symE w a1 a2 a3 a4 k1 k2 k3 k4) 4) :: (sy9 ++ it)) := ⟨_, by assumption⟩
        refine TurnS.next (⟨its.push (.str (funT y j) tv), n + 1, sy9⟩ : TwS) (by assumption) N7 (fun p hp => hp) o4 ⟨?_, P9, fun x hx => O9 x hx _ (.head _)⟩ (fun _ h => nomatch h) (by walk_at "mine same")
        (try dsimp only)
        rw [htake, List.flatMap_append, ← List.cons_append]
        exact strsAre_push q1
      · intro e9 h9 tk9 T9
        refine let_goal ?_
        intro gl_P
        obtain ⟨_, _, _, x9, _⟩ := T9
        dsimp only [gl_P]
        clear gl_P
        exact x9.elim
    | N j hj =>
      have eR : (Txt.item ks (0 + (i : Int) * 1) == Str.ofString "R") = false := by rw [hk0]; decide
      have eX : (Txt.item ks (0 + (i : Int) * 1) == Str.ofString "X") = false := by rw [hk0]; decide
      have eY : (Txt.item ks (0 + (i : Int) * 1) == Str.ofString "Y") = false := by rw [hk0]; decide
      have eC : (Txt.item ks (0 + (i : Int) * 1) == Str.ofString "C") = false := by rw [hk0]; decide
      have eF : (Txt.item ks (0 + (i : Int) * 1) == Str.ofString "F") = false := by rw [hk0]; decide
      have eN : (Txt.item ks (0 + (i : Int) * 1) == Str.ofString "N") = true := by rw [hk0]; decide
      refine let_goal ?_
      intro gl_P
      obtain ⟨hjlo, hjhi, hjdig, hjlen⟩ := hdk
      dsimp only [gl_P]
      clear gl_P
      cases g5 with
      | num _ t1 =>
      k_steps
      unfold Hold
      refine append_head (by assumption) (by assumption) hoffW (by walk_at "mine om") (fun h8 F8 N8 => ?_)
      k_steps
      obtain ⟨tv, N7⟩ : ∃ tv, News _ _ _ ((WL, W.listOf (its.push (.str (numT j) tv)) (n + 1)) :: (as, instObj 155 ad) :: (ad, dictOf (symE w a1 a2 a3 a4 k1 k2 k3 k4) 4) :: (sy2 ++ it)) := ⟨_, by assumption⟩
      refine TurnS.next (⟨its.push (.str (numT j) tv), n + 1, sy2⟩ : TwS) (by assumption) N7 (fun p hp => hp) hA ⟨?_, q2, q3⟩ (fun _ h => nomatch h) (by walk_at "mine same")
      (try dsimp only)
      rw [htake, List.flatMap_append, ← List.cons_append]
      exact strsAre_push q1
    | L j hj =>
      have := code_ne hne
      rw [← hkq] at this
      exact absurd this (by decide)
    | T l hl => exact absurd (.inl ⟨l, rfl⟩) htab
    | U l hl => exact absurd (.inr ⟨l, rfl⟩) htab
  case done =>
    rintro ⟨its, n, sy2⟩ uu h2 tk2 hI0 F2 N2
    with_reducible refine and3 hI0 fun q1 q2 q3 => ?_
    clear hI0
    (try dsimp only at *)
    clear lF' lN'
    k_steps
    refine hret _ _ _ (keeps_of (h := hh) (by assumption) (by assumption)) ?_
    refine SyPostO.mk [(WL, W.listOf its n)] (by assumption) (by assumption) q2 (Nat.le_refl _) ?_ ?_
    rotate_left
    · exact List.forall_mem_cons.mpr ⟨List.forall_mem_cons.mpr ⟨Nat.ne_of_lt l1.1, List.forall_mem_cons.mpr ⟨Nat.ne_of_lt l1.2.1, q3⟩⟩, fun _ h => nomatch h⟩
    refine ⟨WL, _, _, rfl, rfl, ?_, rfl⟩
    rw [List.take_of_length_le (by rw [hvs.len.1, hcl]; exact Nat.le_refl _)] at q1
    exact q1
end
end
section
theorem words_J39 : True := by
  k_with "J39 mine offl" => first | exact List.forall_mem_nil _ | (refine List.forall_mem_cons.mpr ⟨Nat.ne_of_gt (by walk_at "mine om"), ?_⟩; walk_at "mine offl")
  k_with "J39 call ref" => ((with_reducible show wpAny _ _ (call (Value.ref 397) _) _ _ _); refine Hold.in ?_)
  k_with "J39 subscriptTail" => ((have zz_w := (by assumption : Mark 1)); clear zz_w; refine Hold.in ?_)
  k_with "J39 exec Return some" => ((have zz_w := (by assumption : Mark 2)); clear zz_w; refine Hold.in ?_)
  trivial
local macro_rules | `(tactic| walk_at $s) => fwd "J39 " s
theorem off_LW1 : True := by
  w_top off
  trivial
noncomputable abbrev sortsL : List Str := [Str.ofString "x", Str.ofString "y", Str.ofString "", Str.ofString "foo", Str.ofString "-", Str.ofString "bar/", Str.ofString "{"]
theorem any36 {so : Int} : ([3, 6].any fun x => x == so) = decide (so = 3 ∨ so = 6) := by
  by_cases h3 : so = 3
  · subst h3; rfl
  · by_cases h6 : so = 6
    · subst h6; rfl
    · simp [h3, h6, Ne.symm h3, Ne.symm h6]
theorem word_hi {so : Int} (h : ([3, 6].any fun x => x == so) = true) : ∀ nu, wordS so nu = sortsL.getD so.toNat Str.empty ++ Str.ofString "" := fun nu => by
  rw [any36] at h
  unfold wordS sortS; rw [if_pos (of_decide_eq_true h)]; rfl
theorem word_lo {so : Int} (h : ([3, 6].any fun x => x == so) = false) : ∀ nu, wordS so nu = sortsL.getD so.toNat Str.empty ++ Str.ofString (toString nu) := fun nu => by
  rw [any36] at h
  unfold wordS sortS; rw [if_neg (of_decide_eq_false h)]; rfl
theorem strs7 {g h : Heap} {L p : Addr} {k : Nat} {x1 x2 x3 x4 x5 x6 x7 : Str} {t1 t2 t3 t4 t5 t6 t7 : Tok} {tl : List (Addr × Obj)} (_N : News g L h ((p, W.listOf #[.str x1 t1, .str x2 t2, .str x3 t3, .str x4 t4, .str x5 t5, .str x6 t6, .str x7 t7] k) :: tl)) :
    StrsAre (#[Value.str x1 t1, .str x2 t2, .str x3 t3, .str x4 t4, .str x5 t5, .str x6 t6, .str x7 t7] : Array Value).toList [x1, x2, x3, x4, x5, x6, x7] := .cons _ _ (.cons _ _ (.cons _ _ (.cons _ _ (.cons _ _ (.cons _ _ (.cons _ _ .nil))))))
theorem word_end (w mean mg mb) (dp un : Nat) (gd : Option (List Code)) (fr : List Env) (base g h : Heap) (nm : Str) (L fa : Addr) (cd : Value) (m : Str → Option Value) (l : Addr) (us : List Value) (n : Nat) (so : Int) (ts : Tok) (gn : Array GenState) (dr : Drawn) (tk : Nat) (os : OsState) (Q : Flow → Shared → Prop) (E : Value → Shared → Prop)
    (B : Below { handled := none, depth := dp, frames := some fr, guards := gd, units := un } base fr g) (F : Fr g L h (kstB m [(Str.ofString "figures", .ref l), (Str.ofString "sort", .int so ts)])) (X : (Mine.hd.heap_1 w.params).In g) (N : News g L h [(l, W.listOf us.toArray n)]) (T : Top PV LO mean mg mb g)
    (hd : dp + 10 < recursionLimit) (hu : un + 100 < cLine) (hf : FigL us) (h0 : 0 ≤ so) (h6 : so < 7)
    (ret : ∀ h' tk' m' us' n' p nu t1 t2 t3, nu ∈ numL → FigL us' → Fr g L h' m' → News g L h' [(p, ({ cls := .type "tuple", data := .seq #[.str (wordS so nu) t1, .int so t2, .int nu t3] } : Obj)), (l, W.listOf us'.toArray n')] → Q (.ret (.ref p)) ⟨h', gn, dr, tk', os⟩) :
    wpAny (model PG w) (({ handled := none, depth := dp, frames := some fr, guards := gd, units := un } : Around).deeper (envOf nm wordScope L fa cd)) (execs wordEnd (envOf nm wordScope L fa cd)) Q E ⟨h, gn, dr, tk, os⟩ := by
  refine' code_let ?hcb ?hcs ?_
  case hcb => dsimp only [wordEnd, wordScope, fnAt, PySem.Challenge.pw_rh0084_01, List.getD, List.getElem?_cons_succ, List.getElem?_cons_zero, Option.getD, stBody, fnScope, stParts, List.drop] <;> exact rfl
  case hcs => dsimp only [wordEnd, wordScope, fnAt, PySem.Challenge.pw_rh0084_01, List.getD, List.getElem?_cons_succ, List.getElem?_cons_zero, Option.getD, stBody, fnScope, stParts, List.drop] <;> exact rfl
  intro env9 A9
  k_steps
  unfold Hold
  rename News _ _ _ _ => N9
  refine' useDraw (R := [_]) (by walk_at "mine om") ?k1 ?k2 ?k3 N9 ?k5 ?kK ?kd ?ku hf ?koff ?_
  case k1 => k_asm
  case k2 => k_asm
  case k3 => k_asm
  case k5 => k_asm
  case kK => first | exact rfl | assumption
  case kd => ktr_room
  case ku => ktr_units
  case koff => walk_at "mine offl"
  intro i1 t1 h1 tk1 us1 n1 lo1 hi1 hf1 F1 N1
  clear N9
  dsimp only [List.cons_append, List.nil_append] at N1
  (try k_fold)
  (try k_sweep)
  refine let_goal ?_
  intro gl_P
  obtain ⟨hn1, hn2, hn3, hn4⟩ := numF lo1 hi1
  dsimp only [gl_P]
  clear gl_P
  have mk : Mark 2 := trivial
  k_steps
  clear mk
  unfold Hold
  have mk : Mark 1 := trivial
  k_steps
  clear mk
  unfold Hold
  rename News _ _ _ _ => N9
  have hS := strs7 N9
  have hsl : (sortsL.getD so.toNat Str.empty).length ≤ 4 := (by decide : ∀ k : Nat, k < 7 → (sortsL.getD k Str.empty).length ≤ 4) so.toNat (by walk_at "mine om")
  refine kba_turn (value' := PySem.Expr.Name (PySem.Str.ofString "_") ⟨0, 0, 0, 0⟩) (fun _ => rfl) ?_
  refine item_strsA ⟨_, (N9 _ (.head _)).1, rfl, _, rfl⟩ hS h0 (show so < ((7 : Nat) : Int) from h6) (Int.lt_trans h6 (by decide)) (fun t9 => ?_)
  clear hS
  k_steps
  all_goals
    rename News _ _ _ _ => N9
    first
    | (have e := word_hi (so := so) (by assumption)
       simp only [e] at ret
       exact ret _ _ _ us1 n1 _ _ _ _ _ hn1 hf1 (by assumption) (News.more' (N9 _ (.head _)) fun p hp => by rw [List.mem_singleton.mp hp]; exact N9 _ (by k_mem)))
    | (have e := word_lo (so := so) (by assumption)
       simp only [e] at ret
       exact ret _ _ _ us1 n1 _ _ _ _ _ hn1 hf1 (by assumption) (News.more' (N9 _ (.head _)) fun p hp => by rw [List.mem_singleton.mp hp]; exact N9 _ (by k_mem)))
end
section
theorem words_J40 : True := by
  k_with "J40 mine offl" => first | exact List.forall_mem_nil _ | (refine List.forall_mem_cons.mpr ⟨Nat.ne_of_gt (by walk_at "mine om"), ?_⟩; walk_at "mine offl")
  k_with "J40 call ref" => ((with_reducible show wpAny _ _ (call (Value.ref 397) _) _ _ _); refine Hold.in ?_)
  k_with "J40 execs cons" => ((with_reducible show wpAny _ _ (execs (Stmt.Assign [Expr.Name (Str.ofString "number") _] _ _ :: _) _) _ _ _); refine Hold.in ?_)
  k_with "J40 mine draw" => (refine' useDraw (R := [_]) (by walk_at "mine om") ?k1_J40_3 ?k2_J40_3 ?k3_J40_3 ?k4_J40_3 ?k5_J40_3 ?kK_J40_3 ?kd_J40_3 ?ku_J40_3 (by assumption) ?koff_J40_3 ?_; (case k4_J40_3 => assumption); (case k1_J40_3 => k_asm); (case k2_J40_3 => k_asm); (case k3_J40_3 => k_asm); (case k5_J40_3 => k_asm); (case kK_J40_3 => first | exact rfl | assumption); (case kd_J40_3 => ktr_room); (case ku_J40_3 => ktr_units); (case koff_J40_3 => exact List.forall_mem_cons.mpr ⟨by assumption, fun _ h_w => nomatch h_w⟩))
  trivial
local macro_rules | `(tactic| walk_at $s) => fwd "J40 " s
theorem off_LW2 : True := by
  w_top off
  trivial
local macro_rules | `(tactic| walk_at $s) => Lean.Macro.throwUnsupported
theorem word_tail (w mean mg mb) (dp un : Nat) (gd : Option (List Code)) (fr : List Env) (base g h : Heap) (nm : Str) (L fa : Addr) (cd : Value) (m : Str → Option Value) (l f : Addr) (us fv : List Value) (fn : List Int) (n k : Nat) (gn : Array GenState) (dr : Drawn) (tk : Nat) (os : OsState) (Q : Flow → Shared → Prop) (E : Value → Shared → Prop)
    (B : Below { handled := none, depth := dp, frames := some fr, guards := gd, units := un } base fr g) (F : Fr g L h (kstB m [(Str.ofString "figures", .ref l), (Str.ofString "fit", .ref f)])) (X : (Mine.hd.heap_1 w.params).In g) (N : News g L h [(f, W.listOf fv.toArray k), (l, W.listOf us.toArray n)]) (T : Top PV LO mean mg mb g)
    (hd : dp + 10 < recursionLimit) (hu : un + 100 < cLine) (hf : FigL us) (hfl : f ≠ l) (hfi : IntsAre fv fn) (hfn : ∀ x ∈ fn, 0 ≤ x ∧ x < 7) (hk0 : 0 < fn.length) (hk9 : fn.length ≤ 7)
    (ret : ∀ h' tk' m' us' n' p so nu t1 t2 t3, 0 ≤ so → so < 7 → nu ∈ numL → FigL us' → Fr g L h' m' → News g L h' [(p, ({ cls := .type "tuple", data := .seq #[.str (wordS so nu) t1, .int so t2, .int nu t3] } : Obj)), (l, W.listOf us'.toArray n')] → Q (.ret (.ref p)) ⟨h', gn, dr, tk', os⟩) :
    wpAny (model PG w) (({ handled := none, depth := dp, frames := some fr, guards := gd, units := un } : Around).deeper (envOf nm wordScope L fa cd)) (execs wordTail (envOf nm wordScope L fa cd)) Q E ⟨h, gn, dr, tk, os⟩ := by
  refine' code_let ?hcb ?hcs ?_
  case hcb => dsimp only [wordTail, wordScope, fnAt, PySem.Challenge.pw_rh0084_01, List.getD, List.getElem?_cons_succ, List.getElem?_cons_zero, Option.getD, stBody, fnScope, stParts, List.drop] <;> exact rfl
  case hcs => dsimp only [wordTail, wordScope, fnAt, PySem.Challenge.pw_rh0084_01, List.getD, List.getElem?_cons_succ, List.getElem?_cons_zero, Option.getD, stBody, fnScope, stParts, List.drop] <;> exact rfl
  intro env9 A9
  have hfz : fv.length = fn.length := hfi.length
  have hfs : fv.toArray.size = fn.length := by rw [List.size_toArray]; exact hfz
  k_steps
  unfold Hold
  walk_at "mine draw"
  intro i1 t1 h1 tk1 us1 n1 lo1 hi1 hf1 F1 N1
  dsimp only [List.cons_append, List.nil_append] at N1
  (try k_fold)
  (try k_sweep)
  k_steps
  unfold Hold
  walk_at "mine draw"
  intro i2 t2 h2 tk2 us2 n2 lo2 hi2 hf2 F2 N2
  dsimp only [List.cons_append, List.nil_append] at N2
  (try k_fold)
  (try k_sweep)
  have hso : 0 ≤ fn.getD i1.toNat 0 ∧ fn.getD i1.toNat 0 < 7 := by
    have : i1.toNat < fn.length := om_nat (by assumption) (by assumption)
    rw [List.getD_eq_getElem?_getD, List.getElem?_eq_getElem this]
    exact hfn _ (List.getElem_mem _)
  k_steps
  · unfold Hold
    walk_at "mine draw"
    intro i3 t3 h3 tk3 us3 n3 lo3 hi3 hf3 F3 N3
    dsimp only [List.cons_append, List.nil_append] at N3
    (try k_fold)
    (try k_sweep)
    k_steps
    unfold Hold
    rename Fr _ _ _ _ => F9
    rename News _ _ _ _ => N9
    refine' code_use (b := wordEnd) (sc := wordScope) ?hwb ?hws ?_
    case hwb => dsimp only [wordEnd, wordScope, fnAt, PySem.Challenge.pw_rh0084_01, List.getD, List.getElem?_cons_succ, List.getElem?_cons_zero, Option.getD, stBody, fnScope, stParts, List.drop] <;> exact rfl
    case hws => dsimp only [wordEnd, wordScope, fnAt, PySem.Challenge.pw_rh0084_01, List.getD, List.getElem?_cons_succ, List.getElem?_cons_zero, Option.getD, stBody, fnScope, stParts, List.drop] <;> exact rfl
    with_reducible refine' word_end w mean mg mb dp un gd fr base g _ nm L fa cd _ l us3 n3 i3 _ gn dr _ os _ _ B (Fr.pick F9 ?kp) X (news_tl N9) T hd hu hf3 lo3 hi3 ?kr
    case kp => exact List.forall_mem_cons.mpr ⟨by rfl, List.forall_mem_cons.mpr ⟨by rfl, fun _ h => nomatch h⟩⟩
    case kr =>
      intro h' tk' m' us' n' p nu t1 t2 t3 hn hF F' N'
      k_steps
      exact ret _ _ _ _ _ _ _ _ _ _ _ lo3 hi3 hn hF F' N'
  · unfold Hold
    rename Fr _ _ _ _ => F9
    rename News _ _ _ _ => N9
    refine' code_use (b := wordEnd) (sc := wordScope) ?hwb ?hws ?_
    case hwb => dsimp only [wordEnd, wordScope, fnAt, PySem.Challenge.pw_rh0084_01, List.getD, List.getElem?_cons_succ, List.getElem?_cons_zero, Option.getD, stBody, fnScope, stParts, List.drop] <;> exact rfl
    case hws => dsimp only [wordEnd, wordScope, fnAt, PySem.Challenge.pw_rh0084_01, List.getD, List.getElem?_cons_succ, List.getElem?_cons_zero, Option.getD, stBody, fnScope, stParts, List.drop] <;> exact rfl
    with_reducible refine' word_end w mean mg mb dp un gd fr base g _ nm L fa cd _ l us2 n2 (fn.getD i1.toNat 0) _ gn dr _ os _ _ B (Fr.pick F9 ?kp) X (news_tl N9) T hd hu hf2 hso.1 hso.2 ?kr
    case kp => exact List.forall_mem_cons.mpr ⟨by rfl, List.forall_mem_cons.mpr ⟨by rfl, fun _ h => nomatch h⟩⟩
    case kr =>
      intro h' tk' m' us' n' p nu t1 t2 t3 hn hF F' N'
      k_steps
      exact ret _ _ _ _ _ _ _ _ _ _ _ hso.1 hso.2 hn hF F' N'
end
section
theorem words_J41 : True := by
  k_with "J41 getItem ref str" => ((have zz_w := (by assumption : (_ : Str) = Str.ofString "R" ∨ _)); clear zz_w; refine Hold.in ?_)
  k_with "J41 execs cons" => ((with_reducible show wpAny _ _ (execs (Stmt.Assign [Expr.Name (Str.ofString "sort") _] _ _ :: _) _) _ _ _); refine Hold.in ?_)
  trivial
local macro_rules | `(tactic| walk_at $s) => fwd "J41 " s
theorem off_LW3 : True := by
  w_top off
  trivial
noncomputable abbrev wordObj (so nu : Int) (t1 t2 t3 : Tok) : Obj := { cls := .type "tuple", data := .seq #[.str (wordS so nu) t1, .int so t2, .int nu t3] }
noncomputable abbrev WordPost (l : Addr) (us : List Value) (n : Nat) : Heap → Heap → Value → Prop := fun h h' v => ∃ us' n' p so nu t1 t2 t3, v = .ref p ∧ 0 ≤ so ∧ so < 7 ∧ nu ∈ numL ∧ FigL us' ∧ Led h h' [(l, W.listOf us.toArray n)] [(p, wordObj so nu t1 t2 t3), (l, W.listOf us'.toArray n')]
theorem law_word_kind (w mean mg mb) (l : Addr) (us : List Value) (n : Nat) (kk : Str) (hkk : kk = Str.ofString "R" ∨ kk = Str.ofString "X" ∨ kk = Str.ofString "Y" ∨ kk = Str.ofString "C" ∨ kk = Str.ofString "F" ∨ kk = Str.ofString "N") (t : Tok) : Spec w mean mg mb 411 [.ref l, .str kk t] [(l, W.listOf us.toArray n)] 14 180 (fun _ => FigL us) (WordPost l us n) NoExc := by
  refine Spec.of ?_
  intro dp un gd cn cs a ccd cl outer A₀ base h₀ L m hh gn dr tk os Q E B F X N T hk hd hu hpre hret hthr
  have hB : Bind [(Str.ofString "figures", Value.ref l), (Str.ofString "kind", Value.str kk t)] := .is
  walk_at "mine enter"
  k_steps
  unfold Hold
  rcases hkk with rfl | rfl | rfl | rfl | rfl | rfl
  all_goals
    k_steps
    unfold Hold
    rename Fr _ _ _ _ => F9
    rename News _ _ _ _ => N9
    refine' word_tail w mean mg mb _ _ _ _ _ _ _ _ _ _ _ _ l _ us _ _ n _ gn dr _ os _ _ ?kB (Fr.pick F9 ?kp) ?kX (News.more' ?kn fun p hp => ?kl) ?kT ?kd ?ku hpre ?kfl ?kfi ?kfn ?k0 ?k9 ?kr
    case kB => assumption
    case kp => exact List.forall_mem_cons.mpr ⟨by rfl, List.forall_mem_cons.mpr ⟨by rfl, fun _ h => nomatch h⟩⟩
    case kn => exact N9 _ (by k_mem)
    case kl => exact N9 _ (List.mem_singleton.mp hp ▸ by k_mem)
    case kX => assumption
    case kT => assumption
    case kd => ktr_room
    case ku => ktr_units
    case kfl => exact Nat.ne_of_gt (by walk_at "mine om")
    case kfi => first | exact .cons _ _ .nil | exact .cons _ _ (.cons _ _ .nil) | exact .cons _ _ (.cons _ _ (.cons _ _ (.cons _ _ (.cons _ _ .nil))))
    case kfn => decide
    case k0 => decide
    case k9 => decide
    case kr =>
      intro h' tk' m' us' n' p so nu t1 t2 t3 s0 s6 hn hF F' N'
      k_steps
      exact hret _ _ _ (keeps_of (h := hh) (by assumption) (by assumption)) ⟨us', n', p, so, nu, t1, t2, t3, rfl, s0, s6, hn, hF, led_of (by assumption) N'⟩
end
section
theorem words_J42 : True := by
  k_with "J42 mine sameW" => (intro z_w h2_w h3_w; (try simp only [List.contains_cons, List.contains_nil, Bool.or_false, Bool.or_eq_false_iff, beq_eq_false_iff_ne, ne_eq] at h3_w); (try simp only [List.forall_mem_cons, List.not_mem_nil, false_implies, implies_true, and_true, ne_eq] at h2_w); first | (simp [h2_w, h3_w, kstB]; done) | (simp [h3_w, kstB]; done) | (simp [h2_w, kstB]; done))
  k_with "J42 call builtin:list.append" => refine Hold.in ?_
  k_with "J42 exec For Tuple List cons nil" => refine Hold.in ?_
  k_with "J42 exec For Name Call cons nil" => refine Hold.in ?_
  k_with "J42 mine forT" => (unfold Hold; (rename Fr _ _ _ _ => lF_w); (with_unfolding_all refine' For_invTF lF_w ?_ ?k1_J42_4; (case k1_J42_4 => (intro _; rfl))); k_steps)
  trivial
local macro_rules | `(tactic| walk_at $s) => fwd "J42 " s
theorem off_LR1 : True := by
  w_top off
  trivial
section
theorem rows_of (g : Heap) {own : List (Addr × Obj)} {vs : List Value} {l : List (Str × Str)} (h : TupsIn own vs (l.map fun p => [PyData.str p.1, PyData.str p.2])) : RowsIn own vs l := by
  induction l generalizing vs with
  | nil => cases h; exact .nil
  | cons p l ih =>
    cases h with
    | cons m d r =>
      obtain ⟨t1, t2, rfl⟩ := pair_SS g d
      exact .cons m (ih r)
theorem spliced_rows {w : World} {A : Around} {E : Value → Shared → Prop} {env : Env} {h₀ : Heap} {L : Addr} {m : Str → Option Value} {pos : Pos} {elts : List PySem.Expr} {s : Shared} {news : List (Addr × Obj)} {Q : List Value → Shared → Prop} (l : List (Str × Str)) (hl : tupsOf elts = some (l.map fun p => [PyData.str p.1, PyData.str p.2])) (F : Fr h₀ L s.heap m) (N : News h₀ L s.heap news)
    (h : ∀ vs own h' tk, Fr h₀ L h' m → News h₀ L h' (own ++ news) → RowsIn own vs l → (∀ p ∈ own, ∀ q ∈ news, @LT.lt Nat _ q.1 p.1) → Q vs { s with heap := h', toks := tk }) : wpAny (model PG w) A (spliced (backTo pos (starEach elts env))) Q E s :=
  spliced_tups elts _ s news Q hl F N fun vs own h' tk F' N' T lo => h vs own h' tk F' N' (rows_of s.heap T) lo
theorem mem_rows {α : Type} {fz : List α} {x y : α} : ∀ p ∈ x :: y :: fz, p ∈ x :: (fz ++ [y]) := Sub.out (by walk_at "mine sub")
theorem words_J43 : True := by
  k_with "J43 spliced" => ((with_reducible show wpAny _ _ (spliced (backTo _ (starEach (PySem.Expr.Tuple _ _ _ :: PySem.Expr.Tuple _ _ _ :: _) _))) _ _ _); refine Hold.in ?_)
  trivial
local macro_rules | `(tactic| walk_at $s) => fwd "J43 " s
set_option maxHeartbeats 4000000 in
theorem law_rows_spec (w mean mg mb) : Spec w mean mg mb 404 [] [] 8 100 NoPre (fun h h' v => RowsV h h' v) NoExc := by
  refine Spec.of ?_
  intro dp un gd cn cs a ccd cl outer A₀ base h₀ L m hh gn dr tk os Q E B F X N T hk hd hu hpre hret hthr
  have hB : Bind [] := .is
  walk_at "mine enter"
  k_steps
  unfold Hold
  rename Fr _ _ _ _ => lF'
  rename News _ _ _ _ => lN0
  obtain ⟨RL, hRL, _⟩ : ∃ x : Addr, x = _ ∧ News _ _ _ [(x, W.listOf #[] 0)] := ⟨_, rfl, lN0⟩
  subst hRL
  with_reducible refine For_invTF lF' ?_ ?_ ?_
  rotate_left
  · intro x; rfl
  · passes_own
  k_steps
  unfold Hold
  rename News _ _ _ _ => lN1
  rename Fr _ _ _ _ => lF1
  with_reducible refine spliced_rows rowsL ?hl lF1 lN1 ?hi
  case hl => exact rfl
  intro vs fz h9 tk9 F9 N9 hfz hlo
  clear lF1 lN1
  have hlen : vs.length = 18 := hfz.length
  (try dsimp only)
  k_steps
  unfold Hold
  rename News _ _ _ _ => lN'
  rename Fr _ _ _ _ => lF9
  rename ∀ p : Addr × Obj, p ∈ _ → p.1 < _ => l9
  obtain ⟨LL, hLL, hN⟩ : ∃ x : Addr, x = _ ∧ News _ _ _ ((x, W.listOf _ 0) :: _) := ⟨_, rfl, lN'⟩
  subst hLL
  clear hN
  have hfL : ∀ p ∈ fz, p.1 ≠ LL := fun p hp => Nat.ne_of_lt (l9 p (List.mem_append.mpr (.inl hp)))
  have hfR : ∀ p ∈ fz, p.1 ≠ RL := fun p hp => Ne.symm (Nat.ne_of_lt (hlo p hp _ (.head _)))
  have hne : RL ≠ LL := Nat.ne_of_lt (l9 _ (List.mem_append.mpr (.inr (.head _))))
  have lN := news_sub lN' (mem_rows (fz := fz) (x := (LL, W.listOf vs.toArray 0)) (y := (RL, W.listOf #[] 0)))
  clear hlo l9
  clear lN'
  refine' list_t (σ := RwS) (fun q => (RL, W.listOf q.its.toArray q.n) :: (q.own ++ fz)) (fun _ => []) [Str.ofString "kinds", Str.ofString "names", Str.ofString "name"] (fun i q => RowsIn q.own q.its ((rowsL.take i).flatMap expS) ∧ (∀ p ∈ q.own, p.1 ≠ RL)) ⟨[], 0, []⟩ rfl ⟨_, (lN _ (.head _)).1, rfl, _, rfl⟩ (lN _ (.head _)).2.1 ?hlN lF9 (news_sub lN fun p hp => .tail _ hp) (fun _ h => nomatch h) ⟨.nil, List.forall_mem_nil _⟩ ?turn ?done
  case hlN => exact List.forall_mem_cons.mpr ⟨hne, hfL⟩
  case turn =>
    rintro i v ⟨its, n, own⟩ uu h2 tk2 it gn2 dr2 os2 hv ⟨hI, hoff⟩ hA F2 N2
    (try dsimp only at *)
    clear lF9 lN
    refine let_goal ?_
    intro gl_P
    obtain ⟨q, k, nm, t1, t2, e, hr, hm⟩ := hfz.get (by simpa using hv)
    dsimp only [gl_P]
    clear gl_P
    subst e
    have N3 : News _ _ _ ((RL, W.listOf its.toArray n) :: (q, tup2 k nm t1 t2) :: ((own ++ fz) ++ it)) := fun p hp => by
      rcases List.mem_cons.mp hp with h | hp
      · exact N2 _ (h ▸ .head _)
      · rcases List.mem_cons.mp hp with h | hp
        · exact N2 _ (h ▸ List.mem_append.mpr (.inl (.tail _ (List.mem_append.mpr (.inr hm)))))
        · exact N2 _ (.tail _ hp)
    clear N2
    k_steps
    walk_at "mine for"
    rename News _ _ _ _ => N4
    have hszn : nm.length + 2 ≤ sizeLine := by
      have := rowsL_short _ (List.mem_of_getElem? hr)
      rw [sizeLine_eq]; dsimp only at this; walk_at "mine om"
    refine KSpl.split1 (by assumption) N4 (by decide) (fun DS ls h5 k5 el els F5 N5 lt5 => ?_) hszn
    clear N4 hszn
    k_steps
    unfold Hold
    rename Fr _ _ _ _ => lF8
    rename News _ _ _ _ => lN8
    rw [el] at els
    refine' list_s (σ := RwS) (l := DS) (vs := (strValues ls).toArray) (fun q => (RL, W.listOf q.its.toArray q.n) :: ((q.own ++ fz) ++ it)) (fun _ => []) [] (fun r q => RowsIn q.own q.its ((rowsL.take i).flatMap expS ++ ((Txt.split nm (Str.ofString " ")).take r).map (fun n => (n, k))) ∧ (∀ p ∈ q.own, p.1 ≠ RL) ∧ OwnOff it (q.own.map (·.1))) ⟨its, n, own⟩ rfl ⟨_, (lN8 _ (.head _)).1, rfl, _, rfl⟩ (lN8 _ (.head _)).2.1 ?hlN2 lF8 (news_sub lN8 fun p hp => ?hsub2) (fun _ h => nomatch h) ?hinv2 ?turn2 ?done2
    case hsub2 =>
      rcases List.mem_cons.mp hp with h | hp
      · exact h ▸ .tail _ (.head _)
      · exact .tail _ (.tail _ (.tail _ hp))
    case hlN2 =>
      intro p hp
      rcases List.mem_cons.mp hp with h | hp
      · exact h ▸ Nat.ne_of_lt (lt5 _ (.head _))
      · exact Nat.ne_of_lt (lt5 _ (.tail _ (.tail _ hp)))
    case hinv2 =>
      (try dsimp only)
      refine ⟨by simpa using hI, hoff, fun p hp b hb => hA p hp b (.tail _ ?_)⟩
      rw [List.map_append]; exact List.mem_append.mpr (.inl hb)
    case turn2 =>
      rintro r v ⟨its3, n3, own3⟩ uu3 h6 tk6 it3 hv3 hI0 hA3 hl3 F6 N6
      with_reducible refine and3 hI0 fun hI3 hoff3 hio3 => ?_
      clear hI0
      (try dsimp only at *)
      clear lF8 lN8
      refine let_goal ?_
      intro gl_P
      obtain ⟨x3, t3, hx3, e3⟩ := strsAre_at els (by simpa using hv3)
      dsimp only [gl_P]
      clear gl_P
      subst e3
      replace N6 : News _ _ _ ((RL, W.listOf its3.toArray n3) :: (((own3 ++ fz) ++ it) ++ it3)) := N6
      k_steps
      unfold Hold
      rename News _ _ _ _ => N7
      rename _ ∧ AllLt _ _ => l9
      refine let_goal ?_
      intro gl_P
      obtain ⟨D9, u1, u2, hD9, N8⟩ : ∃ (x : Addr) (u1 u2 : Tok), x = _ ∧ News _ _ _ ((x, tup2 x3 k u1 u2) :: (RL, W.listOf its3.toArray n3) :: (((own3 ++ fz) ++ it) ++ it3)) := ⟨_, _, _, rfl, N7⟩
      dsimp only [gl_P]
      clear gl_P
      subst hD9
      have hsz3 : its3.toArray.size ≤ 16384 := by
        have h1 := hI3.length
        have h2 := strsAre_len2 i r hr
        rw [List.size_toArray, h1]; exact h2
      refine append_head (by assumption) (news_sub N8 mem_swap) ?_ hsz3 (fun h8 F8 N9 => ?_)
      · refine List.forall_mem_cons.mpr ⟨Ne.symm (Nat.ne_of_lt l9.1), fun p hp => ?_⟩
        rcases List.mem_append.mp hp with hp | hp
        · rcases List.mem_append.mp hp with hp | hp
          · rcases List.mem_append.mp hp with hp | hp
            · exact hoff3 p hp
            · exact hfR p hp
          · exact hA p hp _ (.head _)
        · exact hA3 p hp _ (.head _)
      rw [List.push_toArray] at N9
      k_steps
      refine TurnS.next (⟨its3 ++ [.ref D9], n3 + 1, (D9, tup2 x3 k u1 u2) :: own3⟩ : RwS) (by assumption) (by assumption) (fun p hp => hp) ?_ ⟨?_, ?_, ?_⟩ (fun _ h => nomatch h) (by walk_at "mine same")
      · intro p hp b hb
        rcases List.mem_cons.mp hb with rfl | hb
        · exact hA3 p hp _ (.head _)
        · rcases List.mem_cons.mp hb with rfl | hb
          · exact AllLt.off l9.2 p (List.mem_append.mpr (.inr hp))
          · exact hA3 p hp b (.tail _ hb)
      · dsimp only
        have e : (Txt.split nm (Str.ofString " ")).take (r + 1) = (Txt.split nm (Str.ofString " ")).take r ++ [x3] := by rw [List.take_add_one, hx3]; rfl
        rw [e, List.map_append, ← List.append_assoc]
        exact (hI3.sub fun p hp => .tail _ hp).snoc (.head _)
      · exact List.forall_mem_cons.mpr ⟨Ne.symm (Nat.ne_of_lt l9.1), hoff3⟩
      · intro p hp b hb
        rcases List.mem_cons.mp hb with rfl | hb
        · exact AllLt.off l9.2 p (List.mem_append.mpr (.inl (List.mem_append.mpr (.inr hp))))
        · exact hio3 p hp b hb
    case done2 =>
      rintro ⟨its3, n3, own3⟩ uu3 h6 tk6 hI0 F6 N6
      with_reducible refine and3 hI0 fun hI3 hoff3 hio3 => ?_
      clear hI0
      (try dsimp only at *)
      clear lF8 lN8
      k_steps
      refine TurnN.next (⟨its3, n3, own3⟩ : RwS) (by assumption) (by assumption) (fun p hp => hp) ?_ ⟨?_, hoff3⟩ (fun _ h => nomatch h) (by walk_at "mine sameW")
      · intro p hp b hb
        rcases List.mem_cons.mp hb with rfl | hb
        · exact hA p hp _ (.head _)
        · rw [List.map_append] at hb
          rcases List.mem_append.mp hb with hb | hb
          · exact hio3 p hp b hb
          · exact hA p hp b (.tail _ (by rw [List.map_append]; exact List.mem_append.mpr (.inr hb)))
      · have e1 : (strValues ls).toArray.size = (Txt.split nm (Str.ofString " ")).length := by rw [List.size_toArray]; exact els.length
        rw [e1, List.take_length] at hI3
        rw [List.take_add_one, hr, List.flatMap_append]
        simpa [expS] using hI3
  case done =>
    rintro ⟨its, n, own⟩ uu h2 tk2 ⟨hI, hoff⟩ F2 N2
    (try dsimp only at *)
    clear lF9 lN
    k_steps
    refine hret _ _ _ (keeps_of (h := hh) (by assumption) (by assumption)) ⟨RL, its, n, own, rfl, ?_, led_of (by assumption) (news_sub (by assumption) fun p hp => ?_)⟩
    · rw [show vs.toArray.size = 18 by rw [List.size_toArray]; exact hlen] at hI
      rw [List.take_of_length_le (show rowsL.length ≤ 18 by decide)] at hI
      exact hI
    · rcases List.mem_cons.mp hp with h | hp
      · exact h ▸ .head _
      · exact .tail _ (List.mem_append.mpr (.inl hp))
end
end
section
theorem words_J44 : True := by
  k_with "J44 mine omem" => exact Sub.out (by walk_at "mine sub")
  k_with "J44 mine law" => first | assumption | (simp [lawR, lawX, lawY, lawC, lawF, lawN, *]; done) | (simp_all [lawR, lawX, lawY, lawC, lawF, lawN, any013]; done) | (simp_all [lawR, lawX, lawY, lawC, lawF, lawN]; done) | (simp_all [lawR, lawX, lawY, lawC, lawF, lawN]; walk_at "mine om")
  k_with "J44 call ref" => ((with_reducible show wpAny _ _ (call (Value.ref 89) _) _ _ _); k_here; k_dflt ((refine' Spec.useSy ?kP_J44_2 (atom_spec _ _ _ _ ⟨_, _, _, _, _, _, _, _, _, _⟩ _ _ _ _ _) ?k1_J44_2 ?k2_J44_2 ?k3_J44_2 ?k4_J44_2 ?k5_J44_2 ?kK_J44_2 ?kd_J44_2 ?ku_J44_2 ?kc_J44_2 ?ko_J44_2 ?_; (case kP_J44_2 => assumption); (case k4_J44_2 => walk_at "mine newsR")); (case k1_J44_2 => k_asm); (case k2_J44_2 => k_asm); (case k3_J44_2 => k_asm); (case k5_J44_2 => k_asm); (case kK_J44_2 => first | exact rfl | assumption); (case kd_J44_2 => ktr_room); (case ku_J44_2 => ktr_units); (case kc_J44_2 => first | assumption | walk_at "mine om"); (case ko_J44_2 => walk_at "mine off"); intro v9_w h9_w tk9_w st9_w sy9_w q9_w P9_w F9_w N9_w O9_w; (refine let_goal ?_); (intro gl9_w); (obtain ⟨i9_w, t9_w, e9_w, x9_w, l9_w, f9_w⟩ := q9_w); (dsimp only [gl9_w]); (clear gl9_w); (subst e9_w); (try dsimp only [List.map_cons, List.map_nil] at O9_w); (try dsimp only [List.cons_append, List.nil_append, symR, symI, symJ] at N9_w); (try k_fold); (try k_sweep)))
  k_with "J44 call ref" => ((with_reducible show wpAny _ _ (call (Value.ref 110) _) _ _ _); k_here; k_dflt ((refine' Spec.useO ?kP_J44_3 (func_spec _ _ _ _ ⟨_, _, _, _, _, _, _, _, _, _⟩ _ _ _ _ _ _ _) (fun _ _ _ z_w => SyPost.toO z_w) ?k1_J44_3 ?k2_J44_3 ?k3_J44_3 ?k4_J44_3 ?k5_J44_3 ?kK_J44_3 ?kd_J44_3 ?ku_J44_3 ?kc_J44_3 ?ko_J44_3 ?_ ?_; (case kP_J44_3 => assumption); (case k4_J44_3 => walk_at "mine newsR")); (case k1_J44_3 => k_asm); (case k2_J44_3 => k_asm); (case k3_J44_3 => k_asm); (case k5_J44_3 => k_asm); (case kK_J44_3 => first | exact rfl | assumption); (case kd_J44_3 => ktr_room); (case ku_J44_3 => ktr_units); (case kc_J44_3 => first | assumption | walk_at "mine om"); (case ko_J44_3 => walk_at "mine off"); intro v9_w h9_w tk9_w own9_w st9_w sy9_w q9_w P9_w F9_w N9_w O9_w D9_w S9_w; (refine let_goal ?_); (intro gl9_w); (obtain ⟨eo9_w, i9_w, n9_w, t9_w, e9_w, a9_w, b9_w, l9_w⟩ := q9_w); (dsimp only [gl9_w]); (clear gl9_w); (subst eo9_w); (subst e9_w); (try dsimp only [List.map_cons, List.map_nil] at O9_w); (try simp only [List.forall_mem_cons, List.not_mem_nil, false_implies, implies_true, and_true] at D9_w); (try dsimp only [List.cons_append, List.nil_append, symR, symI, symJ] at N9_w); (try k_fold); (try k_sweep); (rotate_left 1); (intro e9_w h9_w tk9_w T9_w); (rotate_left 1)))
  k_with "J44 execs cons" => ((with_reducible show wpAny _ _ (execs (Stmt.If (PySem.Expr.BoolOp BoolOp.And [PySem.Expr.Compare _ [CmpOp.In] [PySem.Expr.Constant _ _ _] _, _] _) _ _ _ :: _) _) _ _ _); refine Hold.in ?_)
  k_with "J44 isTrue Compare" => with_reducible exact occ_tf (by assumption) (by assumption)
  trivial
local macro_rules | `(tactic| walk_at $s) => fwd "J44 " s
theorem off_LO1 : True := by
  w_top off
  trivial
theorem law_operand_R (w mean mg mb) (a : SymA) (st : SymSt) (c : Nat) (sy : List (Addr × Obj)) (p : Addr) (wd : Str) (so nu : Int) (t t1 t2 t3 : Tok) (hp : p ∉ (symR w a sy).map (·.1)) :
    Spec w mean mg mb 418 [.ref a.s, .str (Str.ofString "R") t, .ref p] (symR w a sy) 10 140 (fun h => SyP w a st c sy ∧ c + 1 < 10000 ∧ IsTup h p #[.str wd t1, .int so t2, .int nu t3]) (SyPostO w a (c + 2) sy (LawV w st (lawR so nu))) NoExc := by
  obtain ⟨as, ad, a1, a2, a3, a4, k1, k2, k3, k4⟩ := a
  refine Spec.of ?_
  intro dp un gd cn cs a ccd cl outer A₀ base h₀ L m hh gn dr tk os Q E B F X N T hk hd hu hpre hret hthr
  have hB : Bind [(Str.ofString "signs", Value.ref as), (Str.ofString "kind", Value.str (Str.ofString "R") t), (Str.ofString "told", Value.ref p)] := .is
  obtain ⟨P, hc, ht0⟩ := hpre
  dsimp only [symR, symI, symJ] at *
  walk_at "mine enter"
  have ht := Keeps.tup (h := hh) (by assumption) ht0 hp
  have hin : (Builtin.Str.occurrences (Str.ofString "RXY") (Str.ofString "R") 0 (Str.ofString "RXY").length 1).isEmpty = false := by decide +kernel
  k_steps
  unfold Hold
  with_reducible refine' execs_join (lawR so nu = none) (fun Q1 hQ1 hQ2 => ?_) (fun hP tk9 => ?_)
  all_goals k_steps
  all_goals (try (refine hQ1 _ _ ?_; k_steps))
  all_goals first
    | exact hQ2 _ (by first | trivial | walk_at "mine law")
    | exact absurd (hin.symm.trans (by assumption)) (by decide)
    | (refine hret _ _ _ (keeps_of (h := hh) (by assumption) (by assumption)) ?_
       first
        | exact SyPostO.mk [] (by assumption) (by first | assumption | exact news_drop2 (by assumption) | exact news_drop1 (by assumption)) P (by walk_at "mine om") (LawV.none (by walk_at "mine law")) (fun _ h => nomatch h)
        | exact SyPostO.mk [_] (by assumption) (by first | assumption | exact news_drop2 (by assumption) | exact news_drop1 (by assumption)) P (by walk_at "mine om") (LawV.some (by walk_at "mine law") (.reg _ _ _ _ _) st.le_refl) (List.forall_mem_cons.mpr ⟨by k_all, fun _ h => nomatch h⟩)
        | exact SyPostO.mk [_] (by assumption) (by first | assumption | exact news_drop2 (by assumption) | exact news_drop1 (by assumption)) P (by walk_at "mine om") (LawV.some (by walk_at "mine law") (.con _ _ _ (.num _)) st.le_refl) (List.forall_mem_cons.mpr ⟨by k_all, fun _ h => nomatch h⟩)
        | exact SyPostO.mk [_] (by assumption) (by first | assumption | exact news_drop2 (by assumption) | exact news_drop1 (by assumption)) (by assumption) (by walk_at "mine om") (LawV.some2 (.con _ _ _ (.atom (by assumption))) (by assumption) (by walk_at "mine law")) (List.forall_mem_cons.mpr ⟨by k_all, fun _ h => nomatch h⟩)
        | exact SyPostO.mk [] (by assumption) (by first | assumption | exact news_drop2 (by assumption) | exact news_drop1 (by assumption)) (by assumption) (by walk_at "mine om") (LawV.some2 (.fn _ (by assumption) (by assumption)) (by assumption) (by walk_at "mine law")) (fun _ h => nomatch h)
        | exact SyPostO.mk [] (by assumption) (by first | assumption | exact news_drop2 (by assumption) | exact news_drop1 (by assumption)) P (by walk_at "mine om") (LawV.some (by walk_at "mine law") (.num _ _) st.le_refl) (fun _ h => nomatch h))
    | (rename Thrown _ _ _ _ _ _ _ => T9; obtain ⟨_, _, _, x9, _⟩ := T9; exact x9.elim)
section
theorem words_J45 : True := by
  k_with "J45 exec If" => ((with_reducible show wpAny _ _ (exec (Stmt.If (PySem.Expr.BoolOp BoolOp.And [_, PySem.Expr.BoolOp BoolOp.Or _ _] _) _ _ _) _) _ _ _); refine Hold.in ?_)
  trivial
local macro_rules | `(tactic| walk_at $s) => fwd "J45 " s
theorem off_LO2 : True := by
  w_top off
  trivial
theorem lawC_none {wd : Str} {so nu : Int} (h1 : ([0, 1, 3].any fun x => x == so) = false) (hb : ((so == 2) || ((so == 4) && decide (0 < nu))) = false) : lawC wd so nu = none := by
  rw [any013] at h1
  unfold lawC
  rw [if_neg (of_decide_eq_false h1)]
  simp only [Bool.or_eq_false_iff, beq_eq_false_iff_ne, ne_eq, Bool.and_eq_false_iff, decide_eq_false_iff_not] at hb
  rw [if_neg hb.1]
  by_cases h4 : so = 4
  · rw [if_pos h4, if_neg (hb.2.resolve_left (fun e => e h4))]
  · rw [if_neg h4]
theorem law_operand_C (w mean mg mb) (a : SymA) (st : SymSt) (c : Nat) (sy : List (Addr × Obj)) (p : Addr) (wd : Str) (so nu : Int) (t t1 t2 t3 : Tok) (hp : p ∉ (symR w a sy).map (·.1)) :
    Spec w mean mg mb 418 [.ref a.s, .str (Str.ofString "C") t, .ref p] (symR w a sy) 10 140 (fun h => SyP w a st c sy ∧ c + 1 < 10000 ∧ IsTup h p #[.str wd t1, .int so t2, .int nu t3]) (SyPostO w a (c + 2) sy (LawV w st (lawC wd so nu))) NoExc := by
  obtain ⟨as, ad, a1, a2, a3, a4, k1, k2, k3, k4⟩ := a
  refine Spec.of ?_
  intro dp un gd cn cs a ccd cl outer A₀ base h₀ L m hh gn dr tk os Q E B F X N T hk hd hu hpre hret hthr
  have hB : Bind [(Str.ofString "signs", Value.ref as), (Str.ofString "kind", Value.str (Str.ofString "C") t), (Str.ofString "told", Value.ref p)] := .is
  obtain ⟨P, hc, ht0⟩ := hpre
  dsimp only [symR, symI, symJ] at *
  walk_at "mine enter"
  have ht := Keeps.tup (h := hh) (by assumption) ht0 hp
  have hin : (Builtin.Str.occurrences (Str.ofString "RXY") (Str.ofString "C") 0 (Str.ofString "RXY").length 1).isEmpty = true := by decide +kernel
  k_steps
  unfold Hold
  with_reducible refine' execs_join (True) (fun Q1 hQ1 hQ2 => ?_) (fun hP tk9 => ?_)
  all_goals k_steps
  all_goals (try (refine hQ1 _ _ ?_; k_steps))
  any_goals (
    unfold Hold
    with_reducible refine' if_sym ((so == 2) || ((so == 4) && decide (0 < nu))) ?ht (fun hb tk9 => ?_) (fun hb tk9 => ?_)
    case ht =>
      intro R9 hR9
      k_steps
      all_goals exact sym_leaf hR9 (by simp_all)
    all_goals k_steps)
  all_goals first
    | exact hQ2 _ (by first | trivial | walk_at "mine law")
    | exact absurd (hin.symm.trans (by assumption)) (by decide)
    | (refine hret _ _ _ (keeps_of (h := hh) (by assumption) (by assumption)) ?_
       first
        | exact SyPostO.mk [] (by assumption) (by first | assumption | exact news_drop2 (by assumption) | exact news_drop1 (by assumption)) P (by walk_at "mine om") (LawV.none (by first | walk_at "mine law" | exact lawC_none (by assumption) (by assumption))) (fun _ h => nomatch h)
        | exact SyPostO.mk [_] (by assumption) (by first | assumption | exact news_drop2 (by assumption) | exact news_drop1 (by assumption)) P (by walk_at "mine om") (LawV.some (by walk_at "mine law") (.reg _ _ _ _ _) st.le_refl) (List.forall_mem_cons.mpr ⟨by k_all, fun _ h => nomatch h⟩)
        | exact SyPostO.mk [_] (by assumption) (by first | assumption | exact news_drop2 (by assumption) | exact news_drop1 (by assumption)) P (by walk_at "mine om") (LawV.some (by walk_at "mine law") (.con _ _ _ (.num _)) st.le_refl) (List.forall_mem_cons.mpr ⟨by k_all, fun _ h => nomatch h⟩)
        | exact SyPostO.mk [_] (by assumption) (by first | assumption | exact news_drop2 (by assumption) | exact news_drop1 (by assumption)) (by assumption) (by walk_at "mine om") (LawV.some2 (.con _ _ _ (.atom (by assumption))) (by assumption) (by walk_at "mine law")) (List.forall_mem_cons.mpr ⟨by k_all, fun _ h => nomatch h⟩)
        | exact SyPostO.mk [] (by assumption) (by first | assumption | exact news_drop2 (by assumption) | exact news_drop1 (by assumption)) (by assumption) (by walk_at "mine om") (LawV.some2 (.fn _ (by assumption) (by assumption)) (by assumption) (by walk_at "mine law")) (fun _ h => nomatch h)
        | exact SyPostO.mk [] (by assumption) (by first | assumption | exact news_drop2 (by assumption) | exact news_drop1 (by assumption)) P (by walk_at "mine om") (LawV.some (by walk_at "mine law") (.num _ _) st.le_refl) (fun _ h => nomatch h))
    | (rename Thrown _ _ _ _ _ _ _ => T9; obtain ⟨_, _, _, x9, _⟩ := T9; exact x9.elim)
end
theorem off_LO3 : True := by
  w_top off
  trivial
theorem law_operand_F (w mean mg mb) (a : SymA) (st : SymSt) (c : Nat) (sy : List (Addr × Obj)) (p : Addr) (wd : Str) (so nu : Int) (t t1 t2 t3 : Tok) (hp : p ∉ (symR w a sy).map (·.1)) :
    Spec w mean mg mb 418 [.ref a.s, .str (Str.ofString "F") t, .ref p] (symR w a sy) 10 140 (fun h => SyP w a st c sy ∧ c + 1 < 10000 ∧ IsTup h p #[.str wd t1, .int so t2, .int nu t3]) (SyPostO w a (c + 2) sy (LawV w st (lawF so nu))) NoExc := by
  obtain ⟨as, ad, a1, a2, a3, a4, k1, k2, k3, k4⟩ := a
  refine Spec.of ?_
  intro dp un gd cn cs a ccd cl outer A₀ base h₀ L m hh gn dr tk os Q E B F X N T hk hd hu hpre hret hthr
  have hB : Bind [(Str.ofString "signs", Value.ref as), (Str.ofString "kind", Value.str (Str.ofString "F") t), (Str.ofString "told", Value.ref p)] := .is
  obtain ⟨P, hc, ht0⟩ := hpre
  dsimp only [symR, symI, symJ] at *
  walk_at "mine enter"
  have ht := Keeps.tup (h := hh) (by assumption) ht0 hp
  have hin : (Builtin.Str.occurrences (Str.ofString "RXY") (Str.ofString "F") 0 (Str.ofString "RXY").length 1).isEmpty = true := by decide +kernel
  k_steps
  unfold Hold
  with_reducible refine' execs_join (True) (fun Q1 hQ1 hQ2 => ?_) (fun hP tk9 => ?_)
  all_goals k_steps
  all_goals (try (refine hQ1 _ _ ?_; k_steps))
  all_goals first
    | exact hQ2 _ (by first | trivial | walk_at "mine law")
    | exact absurd (hin.symm.trans (by assumption)) (by decide)
    | (refine hret _ _ _ (keeps_of (h := hh) (by assumption) (by assumption)) ?_
       first
        | exact SyPostO.mk [] (by assumption) (by first | assumption | exact news_drop2 (by assumption) | exact news_drop1 (by assumption)) P (by walk_at "mine om") (LawV.none (by walk_at "mine law")) (fun _ h => nomatch h)
        | exact SyPostO.mk [_] (by assumption) (by first | assumption | exact news_drop2 (by assumption) | exact news_drop1 (by assumption)) P (by walk_at "mine om") (LawV.some (by walk_at "mine law") (.reg _ _ _ _ _) st.le_refl) (List.forall_mem_cons.mpr ⟨by k_all, fun _ h => nomatch h⟩)
        | exact SyPostO.mk [_] (by assumption) (by first | assumption | exact news_drop2 (by assumption) | exact news_drop1 (by assumption)) P (by walk_at "mine om") (LawV.some (by walk_at "mine law") (.con _ _ _ (.num _)) st.le_refl) (List.forall_mem_cons.mpr ⟨by k_all, fun _ h => nomatch h⟩)
        | exact SyPostO.mk [_] (by assumption) (by first | assumption | exact news_drop2 (by assumption) | exact news_drop1 (by assumption)) (by assumption) (by walk_at "mine om") (LawV.some2 (.con _ _ _ (.atom (by assumption))) (by assumption) (by walk_at "mine law")) (List.forall_mem_cons.mpr ⟨by k_all, fun _ h => nomatch h⟩)
        | exact SyPostO.mk [] (by assumption) (by first | assumption | exact news_drop2 (by assumption) | exact news_drop1 (by assumption)) (by assumption) (by walk_at "mine om") (LawV.some2 (.fn _ (by assumption) (by assumption)) (by assumption) (by walk_at "mine law")) (fun _ h => nomatch h)
        | exact SyPostO.mk [] (by assumption) (by first | assumption | exact news_drop2 (by assumption) | exact news_drop1 (by assumption)) P (by walk_at "mine om") (LawV.some (by walk_at "mine law") (.num _ _) st.le_refl) (fun _ h => nomatch h))
    | (rename Thrown _ _ _ _ _ _ _ => T9; obtain ⟨_, _, _, x9, _⟩ := T9; exact x9.elim)
theorem off_LO4 : True := by
  w_top off
  trivial
theorem law_operand_X (w mean mg mb) (a : SymA) (st : SymSt) (c : Nat) (sy : List (Addr × Obj)) (p : Addr) (wd : Str) (so nu : Int) (t t1 t2 t3 : Tok) (hp : p ∉ (symR w a sy).map (·.1)) :
    Spec w mean mg mb 418 [.ref a.s, .str (Str.ofString "X") t, .ref p] (symR w a sy) 10 140 (fun h => SyP w a st c sy ∧ c + 1 < 10000 ∧ IsTup h p #[.str wd t1, .int so t2, .int nu t3]) (SyPostO w a (c + 2) sy (LawV w st (lawX so nu))) NoExc := by
  obtain ⟨as, ad, a1, a2, a3, a4, k1, k2, k3, k4⟩ := a
  refine Spec.of ?_
  intro dp un gd cn cs a ccd cl outer A₀ base h₀ L m hh gn dr tk os Q E B F X N T hk hd hu hpre hret hthr
  have hB : Bind [(Str.ofString "signs", Value.ref as), (Str.ofString "kind", Value.str (Str.ofString "X") t), (Str.ofString "told", Value.ref p)] := .is
  obtain ⟨P, hc, ht0⟩ := hpre
  dsimp only [symR, symI, symJ] at *
  walk_at "mine enter"
  have ht := Keeps.tup (h := hh) (by assumption) ht0 hp
  have hin : (Builtin.Str.occurrences (Str.ofString "RXY") (Str.ofString "X") 0 (Str.ofString "RXY").length 1).isEmpty = false := by decide +kernel
  k_steps
  unfold Hold
  with_reducible refine' execs_join (lawX so nu = none) (fun Q1 hQ1 hQ2 => ?_) (fun hP tk9 => ?_)
  all_goals k_steps
  all_goals (try (refine hQ1 _ _ ?_; k_steps))
  all_goals first
    | exact hQ2 _ (by first | trivial | walk_at "mine law")
    | exact absurd (hin.symm.trans (by assumption)) (by decide)
    | (refine hret _ _ _ (keeps_of (h := hh) (by assumption) (by assumption)) ?_
       first
        | exact SyPostO.mk [] (by assumption) (by first | assumption | exact news_drop2 (by assumption) | exact news_drop1 (by assumption)) P (by walk_at "mine om") (LawV.none (by walk_at "mine law")) (fun _ h => nomatch h)
        | exact SyPostO.mk [_] (by assumption) (by first | assumption | exact news_drop2 (by assumption) | exact news_drop1 (by assumption)) P (by walk_at "mine om") (LawV.some (by walk_at "mine law") (.reg _ _ _ _ _) st.le_refl) (List.forall_mem_cons.mpr ⟨by k_all, fun _ h => nomatch h⟩)
        | exact SyPostO.mk [_] (by assumption) (by first | assumption | exact news_drop2 (by assumption) | exact news_drop1 (by assumption)) P (by walk_at "mine om") (LawV.some (by walk_at "mine law") (.con _ _ _ (.num _)) st.le_refl) (List.forall_mem_cons.mpr ⟨by k_all, fun _ h => nomatch h⟩)
        | exact SyPostO.mk [_] (by assumption) (by first | assumption | exact news_drop2 (by assumption) | exact news_drop1 (by assumption)) (by assumption) (by walk_at "mine om") (LawV.some2 (.con _ _ _ (.atom (by assumption))) (by assumption) (by walk_at "mine law")) (List.forall_mem_cons.mpr ⟨by k_all, fun _ h => nomatch h⟩)
        | exact SyPostO.mk [] (by assumption) (by first | assumption | exact news_drop2 (by assumption) | exact news_drop1 (by assumption)) (by assumption) (by walk_at "mine om") (LawV.some2 (.fn _ (by assumption) (by assumption)) (by assumption) (by walk_at "mine law")) (fun _ h => nomatch h)
        | exact SyPostO.mk [] (by assumption) (by first | assumption | exact news_drop2 (by assumption) | exact news_drop1 (by assumption)) P (by walk_at "mine om") (LawV.some (by walk_at "mine law") (.num _ _) st.le_refl) (fun _ h => nomatch h))
    | (rename Thrown _ _ _ _ _ _ _ => T9; obtain ⟨_, _, _, x9, _⟩ := T9; exact x9.elim)
theorem off_LO5 : True := by
  w_top off
  trivial
theorem law_operand_Y (w mean mg mb) (a : SymA) (st : SymSt) (c : Nat) (sy : List (Addr × Obj)) (p : Addr) (wd : Str) (so nu : Int) (t t1 t2 t3 : Tok) (hp : p ∉ (symR w a sy).map (·.1)) :
    Spec w mean mg mb 418 [.ref a.s, .str (Str.ofString "Y") t, .ref p] (symR w a sy) 10 140 (fun h => SyP w a st c sy ∧ c + 1 < 10000 ∧ IsTup h p #[.str wd t1, .int so t2, .int nu t3]) (SyPostO w a (c + 2) sy (LawV w st (lawY so nu))) NoExc := by
  obtain ⟨as, ad, a1, a2, a3, a4, k1, k2, k3, k4⟩ := a
  refine Spec.of ?_
  intro dp un gd cn cs a ccd cl outer A₀ base h₀ L m hh gn dr tk os Q E B F X N T hk hd hu hpre hret hthr
  have hB : Bind [(Str.ofString "signs", Value.ref as), (Str.ofString "kind", Value.str (Str.ofString "Y") t), (Str.ofString "told", Value.ref p)] := .is
  obtain ⟨P, hc, ht0⟩ := hpre
  dsimp only [symR, symI, symJ] at *
  walk_at "mine enter"
  have ht := Keeps.tup (h := hh) (by assumption) ht0 hp
  have hin : (Builtin.Str.occurrences (Str.ofString "RXY") (Str.ofString "Y") 0 (Str.ofString "RXY").length 1).isEmpty = false := by decide +kernel
  k_steps
  unfold Hold
  with_reducible refine' execs_join (lawY so nu = none) (fun Q1 hQ1 hQ2 => ?_) (fun hP tk9 => ?_)
  all_goals k_steps
  all_goals (try (refine hQ1 _ _ ?_; k_steps))
  all_goals first
    | exact hQ2 _ (by first | trivial | walk_at "mine law")
    | exact absurd (hin.symm.trans (by assumption)) (by decide)
    | (refine hret _ _ _ (keeps_of (h := hh) (by assumption) (by assumption)) ?_
       first
        | exact SyPostO.mk [] (by assumption) (by first | assumption | exact news_drop2 (by assumption) | exact news_drop1 (by assumption)) P (by walk_at "mine om") (LawV.none (by walk_at "mine law")) (fun _ h => nomatch h)
        | exact SyPostO.mk [_] (by assumption) (by first | assumption | exact news_drop2 (by assumption) | exact news_drop1 (by assumption)) P (by walk_at "mine om") (LawV.some (by walk_at "mine law") (.reg _ _ _ _ _) st.le_refl) (List.forall_mem_cons.mpr ⟨by k_all, fun _ h => nomatch h⟩)
        | exact SyPostO.mk [_] (by assumption) (by first | assumption | exact news_drop2 (by assumption) | exact news_drop1 (by assumption)) P (by walk_at "mine om") (LawV.some (by walk_at "mine law") (.con _ _ _ (.num _)) st.le_refl) (List.forall_mem_cons.mpr ⟨by k_all, fun _ h => nomatch h⟩)
        | exact SyPostO.mk [_] (by assumption) (by first | assumption | exact news_drop2 (by assumption) | exact news_drop1 (by assumption)) (by assumption) (by walk_at "mine om") (LawV.some2 (.con _ _ _ (.atom (by assumption))) (by assumption) (by walk_at "mine law")) (List.forall_mem_cons.mpr ⟨by k_all, fun _ h => nomatch h⟩)
        | exact SyPostO.mk [] (by assumption) (by first | assumption | exact news_drop2 (by assumption) | exact news_drop1 (by assumption)) (by assumption) (by walk_at "mine om") (LawV.some2 (.fn _ (by assumption) (by assumption)) (by assumption) (by walk_at "mine law")) (fun _ h => nomatch h)
        | exact SyPostO.mk [] (by assumption) (by first | assumption | exact news_drop2 (by assumption) | exact news_drop1 (by assumption)) P (by walk_at "mine om") (LawV.some (by walk_at "mine law") (.num _ _) st.le_refl) (fun _ h => nomatch h))
    | (rename Thrown _ _ _ _ _ _ _ => T9; obtain ⟨_, _, _, x9, _⟩ := T9; exact x9.elim)
theorem off_LO6 : True := by
  w_top off
  trivial
theorem law_operand_N (w mean mg mb) (a : SymA) (st : SymSt) (c : Nat) (sy : List (Addr × Obj)) (p : Addr) (wd : Str) (so nu : Int) (t t1 t2 t3 : Tok) (hp : p ∉ (symR w a sy).map (·.1)) :
    Spec w mean mg mb 418 [.ref a.s, .str (Str.ofString "N") t, .ref p] (symR w a sy) 10 140 (fun h => SyP w a st c sy ∧ c + 1 < 10000 ∧ IsTup h p #[.str wd t1, .int so t2, .int nu t3]) (SyPostO w a (c + 2) sy (LawV w st (lawN so nu))) NoExc := by
  obtain ⟨as, ad, a1, a2, a3, a4, k1, k2, k3, k4⟩ := a
  refine Spec.of ?_
  intro dp un gd cn cs a ccd cl outer A₀ base h₀ L m hh gn dr tk os Q E B F X N T hk hd hu hpre hret hthr
  have hB : Bind [(Str.ofString "signs", Value.ref as), (Str.ofString "kind", Value.str (Str.ofString "N") t), (Str.ofString "told", Value.ref p)] := .is
  obtain ⟨P, hc, ht0⟩ := hpre
  dsimp only [symR, symI, symJ] at *
  walk_at "mine enter"
  have ht := Keeps.tup (h := hh) (by assumption) ht0 hp
  have hin : (Builtin.Str.occurrences (Str.ofString "RXY") (Str.ofString "N") 0 (Str.ofString "RXY").length 1).isEmpty = true := by decide +kernel
  k_steps
  unfold Hold
  with_reducible refine' execs_join (True) (fun Q1 hQ1 hQ2 => ?_) (fun hP tk9 => ?_)
  all_goals k_steps
  all_goals (try (refine hQ1 _ _ ?_; k_steps))
  all_goals first
    | exact hQ2 _ (by first | trivial | walk_at "mine law")
    | exact absurd (hin.symm.trans (by assumption)) (by decide)
    | (refine hret _ _ _ (keeps_of (h := hh) (by assumption) (by assumption)) ?_
       first
        | exact SyPostO.mk [] (by assumption) (by first | assumption | exact news_drop2 (by assumption) | exact news_drop1 (by assumption)) P (by walk_at "mine om") (LawV.none (by walk_at "mine law")) (fun _ h => nomatch h)
        | exact SyPostO.mk [_] (by assumption) (by first | assumption | exact news_drop2 (by assumption) | exact news_drop1 (by assumption)) P (by walk_at "mine om") (LawV.some (by walk_at "mine law") (.reg _ _ _ _ _) st.le_refl) (List.forall_mem_cons.mpr ⟨by k_all, fun _ h => nomatch h⟩)
        | exact SyPostO.mk [_] (by assumption) (by first | assumption | exact news_drop2 (by assumption) | exact news_drop1 (by assumption)) P (by walk_at "mine om") (LawV.some (by walk_at "mine law") (.con _ _ _ (.num _)) st.le_refl) (List.forall_mem_cons.mpr ⟨by k_all, fun _ h => nomatch h⟩)
        | exact SyPostO.mk [_] (by assumption) (by first | assumption | exact news_drop2 (by assumption) | exact news_drop1 (by assumption)) (by assumption) (by walk_at "mine om") (LawV.some2 (.con _ _ _ (.atom (by assumption))) (by assumption) (by walk_at "mine law")) (List.forall_mem_cons.mpr ⟨by k_all, fun _ h => nomatch h⟩)
        | exact SyPostO.mk [] (by assumption) (by first | assumption | exact news_drop2 (by assumption) | exact news_drop1 (by assumption)) (by assumption) (by walk_at "mine om") (LawV.some2 (.fn _ (by assumption) (by assumption)) (by assumption) (by walk_at "mine law")) (fun _ h => nomatch h)
        | exact SyPostO.mk [] (by assumption) (by first | assumption | exact news_drop2 (by assumption) | exact news_drop1 (by assumption)) P (by walk_at "mine om") (LawV.some (by walk_at "mine law") (.num _ _) st.le_refl) (fun _ h => nomatch h))
    | (rename Thrown _ _ _ _ _ _ _ => T9; obtain ⟨_, _, _, x9, _⟩ := T9; exact x9.elim)
theorem off_FAR : True := by
  w_top off
  trivial
noncomputable def Far (X S : List (Addr × Obj)) : Prop := (X.map (·.1)).Nodup ∧ ∀ q ∈ X, ∀ p ∈ S, @Ne Nat p.1 q.1
section
variable {w : World} {a : SymA} {X Y S S' own sy sy' : List (Addr × Obj)} {p : Addr} {o o' : Obj}
theorem Far.perm (h : Far X S) (hp : X.Perm Y) : Far Y S := ⟨((hp.map _).nodup_iff).mp h.1, fun q hq => h.2 q (hp.mem_iff.mpr hq)⟩
theorem Far.sub (h : Far X S) (hs : Y.Sublist X) : Far Y S := ⟨h.1.sublist (hs.map _), fun q hq => h.2 q (hs.subset hq)⟩
theorem Far.set (h : Far ((p, o) :: X) S) : Far ((p, o') :: X) S := ⟨h.1, fun q hq => by
  rcases List.mem_cons.mp hq with rfl | hq
  · exact h.2 (p, o) (.head _)
  · exact h.2 q (.tail _ hq)⟩
theorem Far.set2 {q : Addr × Obj} (h : Far (q :: (p, o) :: X) S) : Far (q :: (p, o') :: X) S := ⟨h.1, fun z hz => by
  rcases List.mem_cons.mp hz with rfl | hz
  · exact h.2 _ (.head _)
  · rcases List.mem_cons.mp hz with rfl | hz
    · exact h.2 (p, o) (.tail _ (.head _))
    · exact h.2 z (.tail _ (.tail _ hz))⟩
theorem Far.head (h : Far ((p, o) :: X) S) : ∀ q ∈ X ++ S, @Ne Nat q.1 p := fun q hq => by
  rcases List.mem_append.mp hq with hq | hq
  · intro e
    have := (List.nodup_cons.mp h.1).1
    exact this (List.mem_map.mpr ⟨q, hq, e⟩)
  · exact h.2 (p, o) (.head _) q hq
theorem Far.cons (h : Far X S) (h1 : ∀ q ∈ X ++ S, @Ne Nat q.1 p) : Far ((p, o) :: X) S := by
  refine ⟨List.nodup_cons.mpr ⟨fun hm => ?_, h.1⟩, fun q hq => ?_⟩
  · obtain ⟨q, hq, e⟩ := List.mem_map.mp hm
    exact h1 q (List.mem_append.mpr (.inl hq)) e
  · rcases List.mem_cons.mp hq with rfl | hq
    · exact fun z hz => h1 z (List.mem_append.mpr (.inr hz))
    · exact h.2 q hq
theorem Far.call (h : Far X (symR w a sy)) (hn : (own.map (·.1)).Nodup) (O9 : OwnOff sy' (X.map (·.1))) (D9 : OffR X own) (S9 : ∀ q ∈ own, ∀ p ∈ symR w a sy', p.1 ≠ q.1) : Far (own ++ X) (symR w a sy') := by
  refine ⟨?_, fun q hq => ?_⟩
  · rw [List.map_append, List.nodup_append]
    refine ⟨hn, h.1, fun x hx y hy e => ?_⟩
    obtain ⟨p, hp, rfl⟩ := List.mem_map.mp hx
    obtain ⟨q, hq, rfl⟩ := List.mem_map.mp hy
    exact D9 q hq p hp e
  · rcases List.mem_append.mp hq with hq | hq
    · exact S9 q hq
    · intro p hp
      simp only [symR, List.mem_cons] at hp
      rcases hp with e | e | e
      · exact e ▸ h.2 q hq _ (.head _)
      · exact e ▸ h.2 q hq _ (.tail _ (.head _))
      · exact O9 p e _ (List.mem_map.mpr ⟨q, hq, rfl⟩)
end
theorem news_fresh {g h h' : Heap} {L : Addr} {X : List (Addr × Obj)} {p : Addr} {o : Obj} (N : News g L h X) (hn : h.get? p = none) : ∀ q ∈ X, @Ne Nat q.1 p := fun q hq e => by
  have := (N q hq).1
  rw [e, hn] at this; cases this
section
variable {w : World} {mean : ExcName → Option Value} {mg mb : Str → Option Value} {dp un : Nat} {gd : Option (List Code)} {cn : Str} {cs : Scope} {ca : Addr} {ccd : Value} {cl : List (Str × Addr)} {outer : List Env} {A₀ : Around} {base h₀ : Heap} {L : Addr} {m : Str → Option Value} {Q E : Value → Shared → Prop} {R : List (Addr × Obj)}
theorem law_word_code (w mean mg mb) (l : Addr) (us : List Value) (n : Nat) {k : Nat} (hk : k ∈ [82, 88, 89, 67, 70, 78]) (t : Tok) : Spec w mean mg mb 411 [.ref l, .str ⟨#[k]⟩ t] [(l, W.listOf us.toArray n)] 14 180 (fun _ => FigL us) (WordPost l us n) NoExc := by
  refine law_word_kind w mean mg mb l us n _ ?_ t
  simp only [List.mem_cons, List.not_mem_nil, or_false] at hk
  rcases hk with rfl | rfl | rfl | rfl | rfl | rfl
  · exact .inl rfl
  · exact .inr (.inl rfl)
  · exact .inr (.inr (.inl rfl))
  · exact .inr (.inr (.inr (.inl rfl)))
  · exact .inr (.inr (.inr (.inr (.inl rfl))))
  · exact .inr (.inr (.inr (.inr (.inr rfl))))
theorem useWord {l : Addr} {us : List Value} {n : Nat} {kk : Str} {t : Tok} {h : Heap} {gn : Array GenState} {dr : Drawn} {tk : Nat} {os : OsState} (S : Spec w mean mg mb 411 [.ref l, .str kk t] [(l, W.listOf us.toArray n)] 14 180 (fun _ => FigL us) (WordPost l us n) NoExc) (B : Below A₀ base outer h₀) (F : Fr h₀ L h m) (X : (Mine.hd.heap_1 w.params).In h₀) (N : News h₀ L h ((l, W.listOf us.toArray n) :: R)) (T : Top PV LO mean mg mb h₀) (hk : cs.kind = .function)
    (hd : dp + 14 < recursionLimit) (hu : un + 180 < cLine) (hf : FigL us) (off : ∀ q ∈ R, @Ne Nat q.1 l)
    (ret : ∀ p so nu t1 t2 t3 h' tk' us' n', so ∈ sortL → nu ∈ numL → FigL us' → Fr h₀ L h' m → News h₀ L h' ((p, wordObj so nu t1 t2 t3) :: (l, W.listOf us'.toArray n') :: R) → @Ne Nat l p → (∀ q ∈ R, @Ne Nat q.1 p) → Q (.ref p) ⟨h', gn, dr, tk', os⟩) :
    wpAny (model PG w) (ktrTop dp un gd cn cs L ca ccd cl outer) (call (.ref 411) [.ref l, .str kk t]) Q E ⟨h, gn, dr, tk, os⟩ :=
  S.use B F X N T hk hd hu (fun p hp => by rw [List.mem_singleton.mp hp]; exact .head _) hf (fun v h' tk' k F' po => by
    refine let_goal ?_
    intro gl_P
    obtain ⟨us', n', p, so, nu, t1, t2, t3, e, s0, s6, hn, hF, hL⟩ := po
    dsimp only [gl_P]
    clear gl_P
    subst e
    obtain ⟨N', o⟩ := hL.both (R := R) F (fun p hp => N p ((List.mem_append.mp hp).elim (.tail _) fun q => by rw [List.mem_singleton.mp q]; exact .head _)) k (fun q hq p hp => by rw [List.mem_singleton.mp hp]; exact Ne.symm (off q hq))
    refine ret p so nu t1 t2 t3 h' tk' us' n' (so_mem s0 s6) hn hF F' (fun q hq => N' q ?_) (fun e => ?_) (fun q hq => Ne.symm (o q hq _ (.head _)))
    · rcases List.mem_cons.mp hq with h | hq
      · exact List.mem_append.mpr (.inr (h ▸ .head _))
      · rcases List.mem_cons.mp hq with h | hq
        · exact List.mem_append.mpr (.inr (h ▸ .tail _ (.head _)))
        · exact List.mem_append.mpr (.inl hq)
    · have h1 := (hL _ (.head _)).1
      have h2 := (hL _ (.tail _ (.head _))).1
      dsimp only at h1 h2
      rw [show p = l from e.symm] at h1
      rw [h1] at h2
      have h3 := congrArg (fun o : Obj => o.cls) (Option.some.inj h2)
      simp [W.listOf] at h3) fun _ _ _ x => x.no
end
inductive PartT (w : World) (st : SymSt) : Option (List ((Int ⊕ Str) × Int)) → Value → List (Addr × Obj) → Prop
  | none : PartT w st none .none []
  | some {l : List ((Int ⊕ Str) × Int)} {ks : List (Addr × Obj)} (D : Addr) (o : Obj) : (D == sysModules) = false → TabT w st o l ks → PartT w st (some l) (.ref D) ((D, o) :: ks)
inductive PartU (w : World) (st : SymSt) : Option (List ((Str × Int) × Int)) → Value → List (Addr × Obj) → Prop
  | none : PartU w st none .none []
  | some {l : List ((Str × Int) × Int)} (D : Addr) (o : Obj) : (D == sysModules) = false → TabU w st o l → PartU w st (some l) (.ref D) [(D, o)]
theorem PartT.le {w : World} {st st' : SymSt} (q : st.le st') {pt : Option (List ((Int ⊕ Str) × Int))} {v : Value} {own : List (Addr × Obj)} (x : PartT w st pt v own) : PartT w st' pt v own := by
  cases x with
  | none => exact .none
  | some D o h t => exact .some D o h (t.le q)
theorem PartU.le {w : World} {st st' : SymSt} (q : st.le st') {pt : Option (List ((Str × Int) × Int))} {v : Value} {own : List (Addr × Obj)} (x : PartU w st pt v own) : PartU w st' pt v own := by
  cases x with
  | none => exact .none
  | some D o h t => exact .some D o h (t.le q)
theorem Far.off {X S : List (Addr × Obj)} {p : Addr × Obj} (h : Far (p :: X) S) : p.1 ∉ S.map (·.1) := fun hm => by
  obtain ⟨q, hq, e⟩ := List.mem_map.mp hm
  exact h.2 p (.head _) q hq e
theorem step_len {sp : Int} (h : sp ∈ stepL) : (Str.ofString (toString sp)).length ≤ 4 := by
  simp only [List.mem_cons, List.not_mem_nil, or_false] at h
  rcases h with rfl | rfl | rfl <;> decide +kernel
section
variable {x y z k d : Addr × Obj} {po ks R S : List (Addr × Obj)}
theorem mem_st0 : ∀ q ∈ z :: x :: ([] ++ R) ++ S, q ∈ x :: y :: z :: ((po ++ R) ++ S) := Sub.out (by walk_at "mine sub")
theorem mem_st1 : ∀ q ∈ z :: x :: ([] ++ R) ++ S, q ∈ x :: k :: y :: z :: ((po ++ R) ++ S) := Sub.out (by walk_at "mine sub")
theorem mem_st2 : ∀ q ∈ d :: x :: k :: y :: z :: (ks ++ R ++ S), q ∈ x :: k :: y :: z :: ((d :: ks ++ R) ++ S) := Sub.out (by walk_at "mine sub")
theorem mem_st3 : ∀ q ∈ z :: x :: ((d :: k :: ks) ++ R) ++ S, q ∈ d :: x :: k :: y :: z :: (ks ++ R ++ S) := Sub.out (by walk_at "mine sub")
theorem mem_st4 : ∀ q ∈ z :: x :: ([] ++ R) ++ S, q ∈ d :: x :: k :: y :: z :: (ks ++ R ++ S) := Sub.out (by walk_at "mine sub")
theorem perm_st2 : (x :: k :: y :: z :: (d :: ks ++ R)).Perm (d :: x :: k :: y :: z :: (ks ++ R)) := by
  simpa using (List.perm_middle (l₁ := [x, k, y, z]) (a := d) (l₂ := ks ++ R))
theorem perm_st3 : (d :: x :: k :: z :: (ks ++ R)).Perm (z :: x :: ((d :: k :: ks) ++ R)) := by
  have h1 : (d :: x :: k :: z :: (ks ++ R)).Perm (z :: d :: x :: k :: (ks ++ R)) := List.perm_middle (l₁ := [d, x, k])
  exact h1.trans (List.Perm.cons _ (List.Perm.swap _ _ _))
theorem mem_su2 : ∀ q ∈ d :: x :: y :: z :: (R ++ S), q ∈ x :: y :: z :: (([d] ++ R) ++ S) := Sub.out (by walk_at "mine sub")
theorem mem_su3 : ∀ q ∈ z :: x :: ([d] ++ R) ++ S, q ∈ d :: x :: y :: z :: (R ++ S) := Sub.out (by walk_at "mine sub")
theorem mem_su4 : ∀ q ∈ z :: x :: ([] ++ R) ++ S, q ∈ d :: x :: y :: z :: (R ++ S) := Sub.out (by walk_at "mine sub")
theorem perm_su2 : (x :: y :: z :: ([d] ++ R)).Perm (d :: x :: y :: z :: R) := by
  simpa using (List.perm_middle (l₁ := [x, y, z]) (a := d) (l₂ := R))
theorem perm_su3 : (d :: x :: z :: R).Perm (z :: x :: ([d] ++ R)) := by
  have h1 : (d :: x :: z :: R).Perm (z :: d :: x :: R) := List.perm_middle (l₁ := [d, x])
  exact h1.trans (List.Perm.cons _ (List.Perm.swap _ _ _))
end
theorem off_KT0 : True := by
  w_top off
  trivial
noncomputable abbrev PartV (w : World) (st : SymSt) (r : Option Opd) (v : Value) (own : List (Addr × Obj)) : Prop := match r with
  | none => v = .none ∧ own = []
  | some d => OpV w st d v own
theorem PartT.pv {w : World} {st : SymSt} {pt : Option (List ((Int ⊕ Str) × Int))} {v : Value} {own : List (Addr × Obj)} (x : PartT w st pt v own) : PartV w st (pt.map .tabT) v own := by
  cases x with
  | none => exact ⟨rfl, rfl⟩
  | some D o h t => exact .tabT D o h t
theorem PartU.pv {w : World} {st : SymSt} {pt : Option (List ((Str × Int) × Int))} {v : Value} {own : List (Addr × Obj)} (x : PartU w st pt v own) : PartV w st (pt.map .tabU) v own := by
  cases x with
  | none => exact ⟨rfl, rfl⟩
  | some D o h t => exact .tabU D o h t
theorem law_operand_code (w mean mg mb) (a : SymA) (st : SymSt) (c : Nat) (sy : List (Addr × Obj)) (p : Addr) (wd : Str) (so nu : Int) (t t1 t2 t3 : Tok) (hp : p ∉ (symR w a sy).map (·.1)) {k : Nat} (hk : k ∈ [82, 88, 89, 67, 70, 78]) :
    Spec w mean mg mb 418 [.ref a.s, .str ⟨#[k]⟩ t, .ref p] (symR w a sy) 10 140 (fun h => SyP w a st c sy ∧ c + 1 < 10000 ∧ IsTup h p #[.str wd t1, .int so t2, .int nu t3]) (SyPostO w a (c + 2) sy (LawV w st (lawOp k wd so nu))) NoExc := by
  simp only [List.mem_cons, List.not_mem_nil, or_false] at hk
  rcases hk with rfl | rfl | rfl | rfl | rfl | rfl
  · exact law_operand_R w mean mg mb a st c sy p wd so nu t t1 t2 t3 hp
  · exact law_operand_X w mean mg mb a st c sy p wd so nu t t1 t2 t3 hp
  · exact law_operand_Y w mean mg mb a st c sy p wd so nu t t1 t2 t3 hp
  · exact law_operand_C w mean mg mb a st c sy p wd so nu t t1 t2 t3 hp
  · exact law_operand_F w mean mg mb a st c sy p wd so nu t t1 t2 t3 hp
  · exact law_operand_N w mean mg mb a st c sy p wd so nu t t1 t2 t3 hp
theorem occ_TU : ∀ c ∈ [82, 88, 89, 67, 70, 78], (Builtin.Str.occurrences (Str.ofString "TU") ⟨#[c]⟩ 0 (Str.ofString "TU").length 1).isEmpty = true := by decide +kernel
noncomputable def NoTabT (o : Option Opd) : Prop := ∀ l, o ≠ some (.tabT l)
theorem NoTabT.ite {c : Prop} [Decidable c] {a b : Option Opd} (x : NoTabT a) (y : NoTabT b) : NoTabT (if c then a else b) := by split <;> assumption
theorem NoTabT.none : NoTabT none := fun _ h => nomatch h
theorem lawOp_noTab (k : Nat) (wd : Str) (so nu : Int) : NoTabT (lawOp k wd so nu) := by
  have r : ∀ {y : Str} {i : Int}, NoTabT (some (.reg y i)) := fun _ h => nomatch h
  have q : ∀ {d : Int ⊕ Str}, NoTabT (some (.con d)) := fun _ h => nomatch h
  refine .ite (.ite (.ite r (.ite r .none)) .none) (.ite (.ite (.ite r .none) .none) (.ite (.ite (.ite r .none) .none) (.ite (.ite q (.ite q (.ite (.ite q .none) .none))) (.ite (.ite (fun _ h => nomatch h) .none) (.ite (fun _ h => nomatch h) .none)))))
theorem OpV.nodup_small {w : World} {st : SymSt} {k : Nat} {wd : Str} {so nu : Int} {v : Value} {own : List (Addr × Obj)} (x : PartV w st (lawOp k wd so nu) v own) : (own.map (·.1)).Nodup := by
  cases q : lawOp k wd so nu with
  | none => rw [q] at x; rw [x.2]; exact List.nodup_nil
  | some d =>
    rw [q] at x
    cases x with
    | reg y i p t1 t2 => simp
    | con p t1 t2 h => simp
    | fn t h1 h2 => exact List.nodup_nil
    | num i t => exact List.nodup_nil
    | tabT D o h1 h2 => exact absurd q (lawOp_noTab k wd so nu _)
    | tabU D o h1 h2 => simp
section
variable {x y z k d : Addr × Obj} {own R S : List (Addr × Obj)}
theorem mem_k1 : ∀ q ∈ y :: k :: x :: z :: (R ++ S), q ∈ k :: x :: ((y :: z :: R) ++ S) := Sub.out (by walk_at "mine sub")
theorem mem_k2 : ∀ q ∈ (k :: x :: y :: z :: R) ++ S, q ∈ y :: k :: x :: z :: (R ++ S) := Sub.out (by walk_at "mine sub")
theorem mem_k3 : ∀ q ∈ z :: k :: x :: y :: ((own ++ R) ++ S), q ∈ (k :: x :: y :: z :: R) ++ (own ++ S) := Sub.out (by walk_at "mine sub")
theorem mem_k4 : ∀ q ∈ (x :: y :: z :: (own ++ R)) ++ S, q ∈ z :: k :: x :: y :: ((own ++ R) ++ S) := Sub.out (by walk_at "mine sub")
theorem perm_k1 : (k :: x :: y :: z :: R).Perm (y :: k :: x :: z :: R) := List.perm_middle (l₁ := [k, x])
theorem perm_k3 : (own ++ (k :: x :: y :: z :: R)).Perm (z :: k :: x :: y :: (own ++ R)) := by
  have h1 : (own ++ (k :: x :: y :: z :: R)).Perm ((k :: x :: y :: z :: R) ++ own) := List.perm_append_comm
  have h2 : (k :: x :: y :: z :: R).Perm (z :: k :: x :: y :: R) := List.perm_middle (l₁ := [k, x, y])
  have h3 := h1.trans (h2.append_right own)
  refine h3.trans (.cons _ (.cons _ (.cons _ (.cons _ ?_))))
  exact List.perm_append_comm
theorem perm_k4 : (z :: x :: y :: R).Perm (x :: y :: z :: R) := (List.perm_middle (l₁ := [x, y])).symm
end
theorem strsAre_pushS {its : Array Value} {ws : List Str} {x : Str} {t : Tok} (h : StrsAre its.toList ws) : StrsAre (its.push (.str x t)).toList (ws ++ [x]) := strsAre_push h
theorem kst_pick {m : Str → Option Value} {ps : List (Str × Value)} (hp : ∀ p ∈ ps, m p.1 = some p.2) : kstB m ps = m := by funext z; exact kstB_eq hp fun _ => rfl
theorem news_dedup {g h : Heap} {L : Addr} : ∀ {it : List (Addr × Obj)}, News g L h it → ∃ it' : List (Addr × Obj), (it'.map (·.1)).Nodup ∧ ∀ p, p ∈ it ↔ p ∈ it' := by
  intro it
  induction it with
  | nil => exact fun _ => ⟨[], List.nodup_nil, fun _ => Iff.rfl⟩
  | cons x it ih =>
    intro N
    obtain ⟨it', h1, h2⟩ := ih (news_tl N)
    by_cases hx : x.1 ∈ it'.map (·.1)
    · refine ⟨it', h1, fun p => ⟨fun hp => ?_, fun hp => .tail _ ((h2 p).mpr hp)⟩⟩
      rcases List.mem_cons.mp hp with rfl | hp
      · obtain ⟨q, hq, e⟩ := List.mem_map.mp hx
        have e1 := (N p (.head _)).1
        have e2 := (N q (.tail _ ((h2 q).mpr hq))).1
        rw [e, e1] at e2
        have : p = q := Prod.ext e.symm (Option.some.inj e2)
        exact this ▸ hq
      · exact (h2 p).mp hp
    · refine ⟨x :: it', List.nodup_cons.mpr ⟨hx, h1⟩, fun p => ?_⟩
      simp [h2]
section
variable {X S it : List (Addr × Obj)}
theorem Far.more (h : Far X S) (hn : (it.map (·.1)).Nodup) (ho : OwnOff it ((X ++ S).map (·.1))) : Far (X ++ it) S := by
  refine ⟨?_, fun q hq => ?_⟩
  · rw [List.map_append, List.nodup_append]
    refine ⟨h.1, hn, fun x hx y hy e => ?_⟩
    obtain ⟨p, hp, rfl⟩ := List.mem_map.mp hy
    exact ho p hp x (by rw [List.map_append]; exact List.mem_append.mpr (.inl hx)) e.symm
  · rcases List.mem_append.mp hq with hq | hq
    · exact h.2 q hq
    · exact fun p hp e => ho q hq p.1 (by rw [List.map_append]; exact List.mem_append.mpr (.inr (List.mem_map.mpr ⟨p, hp, rfl⟩))) e.symm
theorem Far.own (h : Far (X ++ it) S) : OwnOff it ((X ++ S).map (·.1)) := fun q hq b hb e => by
  rw [List.map_append] at hb
  rcases List.mem_append.mp hb with hb | hb
  · have h1 := h.1
    rw [List.map_append, List.nodup_append] at h1
    exact h1.2.2 b hb q.1 (List.mem_map.mpr ⟨q, hq, rfl⟩) e.symm
  · obtain ⟨p, hp, rfl⟩ := List.mem_map.mp hb
    exact h.2 q (List.mem_append.mpr (.inr hq)) p hp e.symm
theorem Far.left (h : Far (X ++ it) S) : Far X S := h.sub (List.sublist_append_left _ _)
end
theorem ownOff_iff {it it' : List (Addr × Obj)} {as : List Addr} (h : OwnOff it as) (hi : ∀ p, p ∈ it ↔ p ∈ it') : OwnOff it' as := fun p hp => h p ((hi p).mpr hp)
structure StT where
  us : List Value
  n : Nat
  its : Array Value
  nw : Nat
  pt : Option (List ((Int ⊕ Str) × Int))
  pv : Value
  po : List (Addr × Obj)
  st : SymSt
  sy : List (Addr × Obj)
  es : List Str
structure StU where
  us : List Value
  n : Nat
  its : Array Value
  nw : Nat
  pt : Option (List ((Str × Int) × Int))
  pv : Value
  po : List (Addr × Obj)
  st : SymSt
  sy : List (Addr × Obj)
  es : List Str
theorem stepN {i : Int} (h0 : 0 ≤ i) (h4 : i < 4) : ∃ n : Nat, ([1, 2, 3, 0] : List Int).getD i.toNat 0 = (n : Int) ∧ n ≤ 3 := by
  obtain ⟨n, rfl⟩ := Int.eq_ofNat_of_zero_le h0
  rcases lt_four (Int.ofNat_lt.mp h4) with rfl | rfl | rfl | rfl
  · exact ⟨1, rfl, by decide⟩
  · exact ⟨2, rfl, by decide⟩
  · exact ⟨3, rfl, by decide⟩
  · exact ⟨0, rfl, by decide⟩
section
variable {w : World} {mean : ExcName → Option Value} {mg mb : Str → Option Value} {dp un : Nat} {gd : Option (List Code)} {cn : Str} {cs : Scope} {ca : Addr} {ccd : Value} {cl : List (Str × Addr)} {outer : List Env} {A₀ : Around} {base h₀ : Heap} {L : Addr} {m : Str → Option Value} {Q E : Value → Shared → Prop} {R : List (Addr × Obj)}
theorem useDrawH {l : Addr} {us : List Value} {n : Nat} {many : Int} {t : Tok} {h : Heap} {gn : Array GenState} {dr : Drawn} {tk : Nat} {os : OsState} (hm : 0 < many) (B : Below A₀ base outer h₀) (F : Fr h₀ L h m) (X : (Mine.hd.heap_1 w.params).In h₀) (N : News h₀ L h ((l, W.listOf us.toArray n) :: R)) (T : Top PV LO mean mg mb h₀) (hk : cs.kind = .function)
    (hd : dp + 4 < recursionLimit) (hu : un + 60 < cLine) (hf : FigL us) (off : ∀ q ∈ R, @Ne Nat q.1 l)
    (ret : ∀ i t' h' tk' us' n', 0 ≤ i → i < many → FigL us' → Fr h₀ L h' m → News h₀ L h' ((l, W.listOf us'.toArray n') :: R) → Q (.int i t') ⟨h', gn, dr, tk', os⟩) :
    wpAny (model PG w) (ktrTop dp un gd cn cs L ca ccd cl outer) (call (.ref 397) [.ref l, .int many t]) Q E ⟨h, gn, dr, tk, os⟩ :=
  useDraw hm B F X (R := R) (fun p hp => N p ((List.mem_append.mp hp).elim (.tail _) fun q => by rw [List.mem_singleton.mp q]; exact .head _)) T hk hd hu hf off fun i t' h' tk' us' n' a b c d e => ret i t' h' tk' us' n' a b c d fun p hp => e p ((List.mem_cons.mp hp).elim (fun q => List.mem_append.mpr (.inr (q ▸ .head _))) fun q => List.mem_append.mpr (.inl q))
end
section
variable {x y z k d e : Addr × Obj} {own R S : List (Addr × Obj)}
theorem mem_k5 : ∀ q ∈ x :: e :: k :: y :: z :: (R ++ S), q ∈ e :: k :: x :: ((y :: z :: R) ++ S) := Sub.out (by walk_at "mine sub")
theorem mem_k6 : ∀ q ∈ (x :: y :: ([k] ++ (z :: R))) ++ S, q ∈ x :: e :: k :: y :: z :: (R ++ S) := Sub.out (by walk_at "mine sub")
theorem perm_k6 : (k :: x :: y :: z :: R).Perm (x :: y :: ([k] ++ (z :: R))) := (List.perm_middle (l₁ := [x, y])).symm
theorem perm_k5 : (k :: x :: y :: z :: R).Perm (x :: k :: y :: z :: R) := .swap _ _ _
end
section
variable {x y z : Addr × Obj} {own R S it it' : List (Addr × Obj)}
theorem mem_d1 : ∀ q ∈ z :: y :: x :: ((own ++ R) ++ S), q ∈ y :: x :: ((own ++ (z :: R)) ++ S) := Sub.out (by walk_at "mine sub")
theorem mem_d2 : ∀ q ∈ (x :: y :: z :: (own ++ R)) ++ S, q ∈ z :: y :: x :: ((own ++ R) ++ S) := Sub.out (by walk_at "mine sub")
theorem perm_d1 : (y :: x :: (own ++ (z :: R))).Perm (z :: y :: x :: (own ++ R)) := by
  have := List.perm_middle (l₁ := y :: x :: own) (a := z) (l₂ := R)
  simpa using this
theorem perm_d2 : (z :: y :: x :: R).Perm (x :: y :: z :: R) :=
  (List.perm_middle (l₁ := [z, y]) (a := x) (l₂ := R)).trans (.cons _ (.swap _ _ _))
theorem mem_it (hi : ∀ p, p ∈ it ↔ p ∈ it') : ∀ q ∈ ((x :: y :: (own ++ (z :: R))) ++ S) ++ it, q ∈ (x :: y :: (own ++ (z :: (R ++ it')))) ++ S := by
  have s1 : Sub it it' := fun p h => (hi p).mp h
  exact Sub.out (by walk_at "mine sub")
theorem mem_it' (hi : ∀ p, p ∈ it ↔ p ∈ it') : ∀ q ∈ (x :: y :: (own ++ (z :: (R ++ it')))) ++ S, q ∈ ((x :: y :: (own ++ (z :: R))) ++ S) ++ it := by
  have s1 : Sub it' it := fun p h => (hi p).mpr h
  exact Sub.out (by walk_at "mine sub")
theorem far_it (h : Far ((x :: y :: (own ++ (z :: R))) ++ it) S) : Far (x :: y :: (own ++ (z :: (R ++ it)))) S := by
  have e : (x :: y :: (own ++ (z :: R))) ++ it = x :: y :: (own ++ (z :: (R ++ it))) := by simp
  rw [← e]; exact h
theorem far_it' (h : Far (x :: y :: (own ++ (z :: (R ++ it)))) S) : Far ((x :: y :: (own ++ (z :: R))) ++ it) S := by
  have e : (x :: y :: (own ++ (z :: R))) ++ it = x :: y :: (own ++ (z :: (R ++ it))) := by simp
  rw [e]; exact h
end
theorem step_in {i : Nat} (h : i < 3) : (0 + (i : Int) * 1) ∈ stepL := by
  rcases lt_three h with rfl | rfl | rfl <;> decide
theorem sub_menu {w : World} {A : Around} {E : Value → Shared → Prop} {s : Shared} {h₀ : Heap} {L : Addr} {news : List (Addr × Obj)} {value slice : PySem.Expr} {p : Addr} {k : Nat} {i : Int} {u t0 t1 t2 t3 : Tok} {Q : Value → Shared → Prop} (N : News h₀ L s.heap news) (hl : (p, W.listOf #[.int 1 t0, .int 2 t1, .int 3 t2, .int 0 t3] k) ∈ news) (h0 : 0 ≤ i) (h4 : i < 4)
    (h : ∀ (n : Nat) (t : Tok), n ≤ 3 → Q (.int (n : Int) t) s)
    (hs : subscripted slice false (.ref p) (.int i u) = operate [.ref p, .int i u] (getItem (.ref p) (.int i u)) := by with_unfolding_all rfl) :
    wpAny (model PG w) A (subscriptTail value slice (.ref p) (.int i u)) Q E s := by
  obtain ⟨i, rfl⟩ := Int.eq_ofNat_of_zero_le ‹0 ≤ i›
  rcases lt_four (Int.ofNat_lt.mp ‹_ < _›) with rfl | rfl | rfl | rfl
  · exact sub_list N hl (by decide) (by decide) rfl (h 1 t0 (by decide)) hs
  · exact sub_list N hl (by decide) (by decide) rfl (h 2 t1 (by decide)) hs
  · exact sub_list N hl (by decide) (by decide) rfl (h 3 t2 (by decide)) hs
  · exact sub_list N hl (by decide) (by decide) rfl (h 0 t3 (by decide)) hs
theorem Fr.pickE {g h : Heap} {L : Addr} {m : Str → Option Value} {ps : List (Str × Value)} (F : Fr g L h m) (hp : ∀ p ∈ ps, m p.1 = some p.2) : Fr g L h (kstB m ps) ∧ kstB m ps = m := ⟨Fr.pick F hp, kst_pick hp⟩
theorem strs_end {its : Array Value} {ws es : List Str} {x y : Str} {t : Tok} (h : StrsAre its.toList (ws ++ (x :: es))) : StrsAre (its.push (.str y t)).toList (ws ++ (x :: es ++ [y])) := by
  have := strsAre_pushS (t := t) (x := y) h
  simpa using this
section
variable {prog : Program} {w w' : World} {A : Around} {s : Shared} {E : Value → Shared → Prop}
theorem eqAt_dict_none {D : Addr} {o : Obj} {es : Array DictEntry} {ep : Nat} (ho : s.heap.get? D = some o) (hc : o.ExactDict) (hd : o.data = .dict es ep) (hu : A.units < cLine) : SeqAt.EqAt A s (.ref D) .none false := fun prog w E Q h => by
  have hT : s.TypeIs (.ref D) "dict" := ⟨o, ho, hc.1⟩
  have hrc : SeqAt.RcAt A s (.ref D) .none false := fun prog w E Q h =>
    SeqAt.rc_eq_decline_or (k := false) hT rfl (by decide) PySem.F.sub_NoneType_dict PySem.F.slot_dict_eq PySem.F.slot_NoneType_eq_refl
      (fun Q' hq => wpAny_call_entry PySem.F.slot_dict_eq hT PySem.F.entry_dict_eq (by
        show wpAny _ _ (Builtin.Dict.dictSlotArgs "__eq__" ⟨[.ref D, .none], []⟩ >>= _) _ _ s
        refine wpAny_bind ?_
        unfold Builtin.Dict.dictSlotArgs
        refine wpAny_bind (wpAny_notOrdered_dict hT ?_)
        show wpAny _ _ (pure (Value.ref D, Value.none)) _ _ s
        refine wpAny_pure ?_
        refine wpAny_bind (wpAny_isInstance (T := "NoneType") (v := .none) rfl PySem.F.sub_NoneType_dict ?_)
        simp only [Bool.not_false, if_true]
        refine wpAny_bind (wpAny_rule ?_)
        exact wpAny_pure ⟨_, rfl, hq⟩) (PySem.F.args_dict_eq_2 _ _))
      (fun _ hq => call_gives PySem.F.slot_NoneType_eq_refl rfl PySem.F.entry_NoneType_eq (PySem.F.args_NoneType_eq_2 _ _) (SeqAt.NoneType___eq___none_ref_0 D) hq)
      (fun _ hq => wpAny_of_eq (rfl : isSame (.ref D) .none = pure false) hq) (.inr hu) h
  unfold eqBool
  refine wpAny_holding ?_
  refine wpAny_ite_split (fun hab => absurd (eq_of_beq hab) nofun) (fun _ => ?_)
  exact wpAny_bind (hrc prog w E _ (wpAny_truthy_bool h))
end
theorem off_EQ2 : True := by
  w_top off
  trivial
section
variable {prog : Program} {w w' : World} {A : Around} {s : Shared} {E : Value → Shared → Prop}
theorem same_true {nm : String} {a b : Addr} {oa ob : Obj} {es es' : Array DictEntry} {ep ep' : Nat} {Q : Bool → Shared → Prop} (ha : (a == sysModules) = false) (hb : (b == sysModules) = false) (hoa : s.heap.get? a = some oa) (hda : oa.data = .dict es ep) (hob : s.heap.get? b = some ob) (hdb : ob.data = .dict es' ep') (hsz : es.size = es'.size)
    (hf : ∀ i (hi : i < es.size) (hi' : i < es'.size), (∀ (E : Value → Shared → Prop) (Q : Option Nat → Shared → Prop), Q (some i) s → wpAny (model prog w) A (dictFind b es[i].key es[i].hash) Q E s) ∧ SeqAt.EqAt A s es[i].val es'[i].val true) (h : Q true s) :
    wpAny (model prog w) A (Builtin.Dict.samePairs nm a b) Q E s := by
  unfold Builtin.Dict.samePairs Builtin.Dict.showsAll
  rw [if_neg (by rw [ha]; decide), if_neg (by rw [hb]; decide)]
  refine wpAny_bind (wpAny_pure (wpAny_bind (wpAny_pure ?_)))
  refine wpAny_bind (wpAny_dictEntries hoa hda ?_)
  (try dsimp only)
  refine wpAny_bind (wpAny_dictEntries hob hdb ?_)
  rw [if_neg (by rw [hsz]; simp)]
  refine wpAny_bind (wpAny_dictEpoch hoa hda ?_)
  refine wpAny_bind ?_
  rw [Std.Legacy.Range.forIn_eq_forIn_range']
  simp only [Std.Legacy.Range.size, Nat.sub_zero, Nat.add_sub_cancel, Nat.div_one]
  refine wpAny_forIn_list _ (fun rest q s' => s' = s ∧ q = (none, ()) ∧ ∃ i, rest = List.range' i (es.size - i) ∧ i ≤ es.size) _ ?_ ?_ _ _ ⟨rfl, rfl, 0, by simp, Nat.zero_le _⟩
  · rintro x rest q s' ⟨rfl, rfl, i, hr, hi⟩
    obtain ⟨hlt, rfl, hrest⟩ := range_next hr
    have hlt2 : x < es'.size := hsz ▸ hlt
    obtain ⟨f1, f2⟩ := hf x hlt hlt2
    refine wpAny_bind (wpAny_dictEntries hoa hda ?_)
    rw [Array.getElem?_eq_getElem hlt]
    refine wpAny_bind (wpAny_holding (wpAny_bind (f1 _ _ ?_)))
    refine wpAny_bind (wpAny_dictEntries hob hdb ?_)
    rw [Array.getElem?_eq_getElem hlt2]
    refine wpAny_holding (f2 prog w _ _ ?_)
    simp only [Bool.not_true, Bool.false_eq_true, if_false]
    refine wpAny_bind (wpAny_dictEpoch hoa hda ?_)
    rw [if_neg (by first | walk_at "mine mem1" | simp)]
    exact wpAny_pure ⟨rfl, rfl, x + 1, hrest, hlt⟩
  · rintro q s' ⟨rfl, rfl, i, hr, hi⟩
    exact wpAny_pure h
theorem rc_dicts {a b : Addr} {oa ob : Obj} {es es' : Array DictEntry} {ep ep' : Nat} (ha : (a == sysModules) = false) (hb : (b == sysModules) = false) (hoa : s.heap.get? a = some oa) (hca : oa.ExactDict) (hda : oa.data = .dict es ep) (hob : s.heap.get? b = some ob) (hcb : ob.ExactDict) (hdb : ob.data = .dict es' ep') (hsz : es.size = es'.size) (hu : A.units < cLine)
    (hf : ∀ (prog : Program) (w : World) i (hi : i < es.size) (hi' : i < es'.size), (∀ (E : Value → Shared → Prop) (Q : Option Nat → Shared → Prop), Q (some i) s → wpAny (model prog w) A.in1 (dictFind b es[i].key es[i].hash) Q E s) ∧ SeqAt.EqAt A.in1 s es[i].val es'[i].val true) :
    SeqAt.RcAt A s (.ref a) (.ref b) true := fun prog w E Q h => by
  have hTa : s.TypeIs (.ref a) "dict" := ⟨oa, hoa, hca.1⟩
  have hTb : s.TypeIs (.ref b) "dict" := ⟨ob, hob, hcb.1⟩
  show wpAny (model prog w) A (compareOp .Eq (.ref a) (.ref b)) Q E s
  refine wpAny_richCompare_same_room (op := .Eq) hTa hTb PySem.F.slot_dict_eq (wpAny_call_entry PySem.F.slot_dict_eq hTa PySem.F.entry_dict_eq ?_ (PySem.F.args_dict_eq_2 _ _)) hu
  show wpAny _ _ (Builtin.Dict.dictSlotArgs "__eq__" ⟨[.ref a, .ref b], []⟩ >>= _) _ _ s
  refine wpAny_bind ?_
  unfold Builtin.Dict.dictSlotArgs
  refine wpAny_bind (wpAny_notOrdered_dict hTa ?_)
  show wpAny _ _ (pure (Value.ref a, Value.ref b)) _ _ s
  refine wpAny_pure ?_
  refine wpAny_bind (wpAny_isInstance (T := "dict") hTb PySem.F.sub_dict_dict ?_)
  simp only [Bool.not_true, Bool.false_eq_true, if_false]
  refine wpAny_bind (wpAny_pure (wpAny_bind (wpAny_pure ?_)))
  refine wpAny_bind (same_true ha hb hoa hda hob hdb hsz (hf prog w) ?_)
  refine wpAny_pure ⟨_, rfl, ?_, ?_⟩
  · exact fun x => nomatch x
  · simpa using h
theorem eqAt_int {i : Int} {t u : Tok} : SeqAt.EqAt A s (.int i t) (.int i u) true := by
  have := SeqAt.EqAt.int_int (A := A) (s := s) i t i u
  simpa using this
theorem eqAt_str {x : Str} {t u : Tok} : SeqAt.EqAt A s (.str x t) (.str x u) true := by
  have := SeqAt.EqAt.str_str (A := A) (s := s) x t x u
  simpa using this
theorem eqAt_pair {p q : Addr} {x y x' y' : Value} (h1 : s.heap.get? p = some { cls := .type "tuple", data := .seq #[x, y] }) (h2 : s.heap.get? q = some { cls := .type "tuple", data := .seq #[x', y'] }) (hpq : p ≠ q) (hu : A.units < cLine) (e1 : SeqAt.EqAt A.in1 s x x' true) (e2 : SeqAt.EqAt A.in1 s y y' true) : SeqAt.EqAt A s (.ref p) (.ref q) true := by
  refine SeqAt.EqAt.of_refs hpq ?_
  have := SeqAt.RcAt.tuples (s := s) (A := A) (e := fun _ => true) ⟨_, h1, rfl, _, rfl⟩ ⟨_, h2, rfl, _, rfl⟩ hu (fun j j1 j2 => ?_)
  · exact this
  · rcases lt_two j1 with rfl | rfl
    · exact e1
    · exact e2
end
theorem tabF_fun {st : SymSt} (hT : st.texts.Nodup) (hF : st.funs.Nodup) {l : List ((Str × Int) × Int)} {l1 l2 : List (Int × Int)} (x : TabF st l l1) (y : TabF st l l2) : l1 = l2 := by
  induction x generalizing l2 with
  | nil =>
    generalize hl : ([] : List ((Str × Int) × Int)) = l at y
    cases y with
    | nil => rfl
    | snoc _ _ => simp at hl
  | @snoc l l' f i v x' hf ih =>
    generalize hl : l ++ [(f, v)] = l3 at y
    cases y with
    | nil => simp at hl
    | @snoc l4 l4' f4 i4 v4 y' hf4 =>
      obtain ⟨rfl, e⟩ := List.append_inj' hl rfl
      simp only [List.cons.injEq, Prod.mk.injEq, and_true] at e
      obtain ⟨rfl, rfl⟩ := e
      rw [ih y', fun_inj hT hF hf hf4]
section
variable {w : World} {A : Around} {s : Shared} {st : SymSt}
theorem eqAt_tabU {a b : Addr} {oa ob : Obj} {l : List ((Str × Int) × Int)} (hT : st.texts.Nodup) (hF : st.funs.Nodup) (ha : (a == sysModules) = false) (hb : (b == sysModules) = false) (hab : a ≠ b) (hoa : s.heap.get? a = some oa) (hob : s.heap.get? b = some ob) (x : TabU w st oa l) (y : TabU w st ob l) (hu : A.units < cLine) : SeqAt.EqAt A s (.ref a) (.ref b) true := by
  refine SeqAt.EqAt.of_refs hab ?_
  obtain ⟨kvs, l1, ⟨es, ep, hca, hda, hka, hpa, hna⟩, f1, n1, t1⟩ := x
  refine let_goal ?_
  intro gl_P
  obtain ⟨kvs2, l2, ⟨es2, ep2, hcb, hdb, hkb, hpb, hnb⟩, f2, n2, t2⟩ := y
  dsimp only [gl_P]
  clear gl_P
  obtain rfl := tabF_fun hT hF t1 t2
  have e1 : es.size = l.length := by have h1 := hpa.length; have h2 := f1.length; have h3 := t1.len; simp at h1 h2; first | exact h1.trans (h2.symm.trans h3) | exact h1.symm.trans (h2.symm.trans h3) | exact h1.trans (h2.trans h3) | exact h1.symm.trans (h2.trans h3) | walk_at "mine om"
  have e2 : es2.size = l.length := by have h1 := hpb.length; have h2 := f2.length; have h3 := t2.len; simp at h1 h2; first | exact h1.trans (h2.symm.trans h3) | exact h1.symm.trans (h2.symm.trans h3) | exact h1.trans (h2.trans h3) | exact h1.symm.trans (h2.trans h3) | walk_at "mine om"
  refine rc_dicts ha hb hoa hca hda hob hcb hdb (e1.trans e2.symm) hu fun prog w' i hi hi' => ?_
  refine let_goal ?_
  intro gl_P
  obtain ⟨f, j, v, t, u, g1, g2, g3, g4⟩ := tabU_item hpa f1 t1 (i := i) (e := es[i]) (by first | walk_at "mine mem1" | simp [hi])
  obtain ⟨f', j', v', t', u', q1, q2, q3, q4⟩ := tabU_item hpb f2 t2 (i := i) (e := es2[i]) (by simp [hi'])
  dsimp only [gl_P]
  clear gl_P
  rw [g1] at q1
  obtain ⟨rfl, rfl⟩ : f = f' ∧ v = v' := by simpa using q1
  obtain rfl := fun_inj hT hF g4 q4
  refine let_goal ?_
  intro gl_P
  obtain ⟨hkey, hval⟩ := hpa.get? (i := i) (e := es[i]) (by first | walk_at "mine mem1" | simp [hi]) g2
  obtain ⟨hkey2, hval2⟩ := hpb.get? (i := i) (e := es2[i]) (by simp [hi']) q2
  obtain ⟨k', hk', hh⟩ := hka es[i] (Array.getElem_mem hi)
  dsimp only [gl_P]
  clear gl_P
  have ekk : k' = j := (intKind PG w).inj _ _ _ hk' hkey
  subst ekk
  refine ⟨fun E Q h => ?_, ?_⟩
  · rw [hh]
    refine wpAny_dictFind_of (knd := intKind prog w') (k := k') hkey hob hdb hkb ?_
    have : (es2.findIdx? fun e => (intKind prog w').is k' e.key) = some i := by
      rw [Array.findIdx?_eq_some_iff_getElem]
      refine ⟨hi', hkey2, fun r hr => ?_⟩
      intro hc
      obtain ⟨kr, vr, hkr⟩ : ∃ kr vr, kvs2[r]? = some (kr, vr) := by
        have hl := hpb.length
        have : r < kvs2.length := by simp at hl; rw [← hl]; exact Nat.lt_trans hr hi'
        exact ⟨_, _, List.getElem?_eq_getElem this⟩
      obtain ⟨hkr1, _⟩ := hpb.get? (i := r) (e := es2[r]) (by simp [Nat.lt_trans hr hi']) hkr
      have e := (intKind PG w).inj _ _ _ hc hkr1
      subst e
      have h1 : (kvs2.map (·.1))[r]? = some k' := by rw [List.getElem?_map, hkr]; rfl
      have h2 : (kvs2.map (·.1))[i]? = some k' := by rw [List.getElem?_map, q2]; rfl
      have := nodup_idx hnb h1 h2
      walk_at "mine om"
    rw [this]; exact h
  · rw [hval, hval2]; exact eqAt_int
end
theorem tupKey_any {prog : Program} {w : World} {h : Heap} {p : Addr} {i j : Int} {t1 t2 : Tok} (g : h.get? p = some (keyObj i j t1 t2)) : IsTupleKey (intKind prog w) h [i, j] p := ⟨_, _, _, g, rfl, rfl, .cons (by simp [intKind, Value.isInt]) (.cons (by simp [intKind, Value.isInt]) .nil)⟩
section
variable {w : World} {A : Around} {s : Shared} {st : SymSt}
theorem eqAt_tabT {a b : Addr} {oa ob : Obj} {l : List ((Int ⊕ Str) × Int)} {ks ks2 : List (Addr × Obj)} (hT : st.texts.Nodup) (ha : (a == sysModules) = false) (hb : (b == sysModules) = false) (hab : a ≠ b) (hoa : s.heap.get? a = some oa) (hob : s.heap.get? b = some ob) (x : TabT w st oa l ks) (y : TabT w st ob l ks2) (hk : Held ks s.heap) (hk2 : Held ks2 s.heap) (hu : A.units + 1 < cLine) : SeqAt.EqAt A s (.ref a) (.ref b) true := by
  refine SeqAt.EqAt.of_refs hab ?_
  obtain ⟨es, ep, xs, hca, hda, hea, hna, ta⟩ := x
  refine let_goal ?_
  intro gl_P
  obtain ⟨es2, ep2, xs2, hcb, hdb, heb, hnb, tb⟩ := y
  dsimp only [gl_P]
  clear gl_P
  have e1 : es.size = l.length := by have h1 := congrArg List.length hea; have h2 := ta.len; simp at h1; first | exact h1.trans h2 | exact h1.symm.trans h2 | walk_at "mine om"
  have e2 : es2.size = l.length := by have h1 := congrArg List.length heb; have h2 := tb.len; simp at h1; first | exact h1.trans h2 | exact h1.symm.trans h2 | walk_at "mine om"
  refine rc_dicts ha hb hoa hca hda hob hcb hdb (e1.trans e2.symm) (by walk_at "mine om") fun prog w' i hi hi' => ?_
  refine let_goal ?_
  intro gl_P
  obtain ⟨d, k, j, p, v, t, t1, t2, g1, g2, g3, g4, g5⟩ := tabT_item hea ta (i := i) (e := es[i]) (by first | walk_at "mine mem1" | simp [hi])
  obtain ⟨d', k', j', p', v', t', t1', t2', q1, q2, q3, q4, q5⟩ := tabT_item heb tb (i := i) (e := es2[i]) (by simp [hi'])
  dsimp only [gl_P]
  clear gl_P
  rw [g1] at q1
  obtain ⟨rfl, rfl⟩ : d = d' ∧ v = v' := by simpa using q1
  obtain ⟨rfl, rfl⟩ := con_inj hT g5 q5
  have m1 : es[i] = entryOfKey (tupleKind (intKind PG w)) ([k, j], p, .int v t) := by
    have h1 : es.toList[i]? = some es[i] := by simp [hi]
    rw [hea, List.getElem?_map, g2] at h1
    exact (Option.some.inj h1).symm
  have m2 : es2[i] = entryOfKey (tupleKind (intKind PG w)) ([k, j], p', .int v t') := by
    have h1 : es2.toList[i]? = some es2[i] := by simp [hi']
    rw [heb, List.getElem?_map, q2] at h1
    exact (Option.some.inj h1).symm
  refine ⟨fun E Q h => ?_, ?_⟩
  · rw [m1]
    have his : ∀ z ∈ xs2, (tupleKind (intKind prog w')).is s.heap z.1 z.2.1 := fun z hz => by
      refine let_goal ?_
      intro gl_P
      obtain ⟨i, j, u1, u2, e, mm⟩ := tb.keys z hz
      dsimp only [gl_P]
      clear gl_P
      rw [e]; exact tupKey_any (hk2 _ mm)
    show wpAny (model prog w') A.in1 (dictFind b (.ref p) ((tupleKind (intKind prog w')).hash [k, j])) Q E s
    refine wpAny_dictFind_heap (knd := tupleKind (intKind prog w')) (k := [k, j]) (xs := xs2) (show A.in1.units < cLine from ?_) (tupKey_any (hk _ g4)) hob hdb heb his hnb (fun hno => absurd q2 (hno i _)) (fun r pr hr => ?_)
    · exact hu
    · have h1 : (xs2.map (·.1))[r]? = some [k, j] := by rw [List.getElem?_map, hr]; rfl
      have h2 : (xs2.map (·.1))[i]? = some [k, j] := by rw [List.getElem?_map, q2]; rfl
      obtain rfl := nodup_idx hnb h1 h2
      exact h
  · rw [m1, m2]; exact eqAt_int
end
theorem off_EQ3 : True := by
  w_top off
  trivial
theorem all_true {n : Nat} : ((List.range n).all fun _ => true) = true := by simp
section
variable {w : World} {A : Around} {s : Shared} {st : SymSt}
theorem eqAt_op {d : Opd} {v v' : Value} {o1 o2 : List (Addr × Obj)} (hT : st.texts.Nodup) (hF : st.funs.Nodup) (x : OpV w st d v o1) (y : OpV w st d v' o2) (H1 : Held o1 s.heap) (H2 : Held o2 s.heap) (off : ∀ a ∈ o1, ∀ b ∈ o2, a.1 ≠ b.1) (hu : A.units + 1 < cLine) : SeqAt.EqAt A s v v' true := by
  cases x with
  | reg z i p t1 t2 =>
    cases y with
    | reg _ _ q u1 u2 => exact eqAt_pair (H1 _ (.head _)) (H2 _ (.head _)) (off _ (.head _) _ (.head _)) (by walk_at "mine om") eqAt_str eqAt_int
  | con p t1 t2 h =>
    cases y with
    | con q u1 u2 h' =>
      obtain ⟨rfl, rfl⟩ := con_inj hT h h'
      exact eqAt_pair (H1 _ (.head _)) (H2 _ (.head _)) (off _ (.head _) _ (.head _)) (by walk_at "mine om") eqAt_int eqAt_int
  | fn t h1 h2 =>
    cases y with
    | fn u h3 h4 =>
      have e := fun_inj hT hF (FunIs.mk h1 h2) (FunIs.mk h3 h4)
      rw [e]; exact eqAt_int
  | num i t =>
    cases y with
    | num _ u => exact eqAt_int
  | tabT D o hl h =>
    cases y with
    | tabT D' o' hl' h' => exact eqAt_tabT hT hl hl' (off _ (.head _) _ (.head _)) (H1 _ (.head _)) (H2 _ (.head _)) h h' (fun q hq => H1 q (.tail _ hq)) (fun q hq => H2 q (.tail _ hq)) hu
  | tabU D o hl h =>
    cases y with
    | tabU D' o' hl' h' => exact eqAt_tabU hT hF hl hl' (off _ (.head _) _ (.head _)) (H1 _ (.head _)) (H2 _ (.head _)) h h' (by walk_at "mine om")
noncomputable abbrev insObj (nm : Str) (t : Tok) (vals : List Value) : Obj := { cls := .type "tuple", data := .seq (Value.str nm t :: vals).toArray }
theorem rcne_ins {p q : Addr} {nm : Str} {t t' : Tok} {vals vals' : List Value} {ds : List Opd} {own own' : List (Addr × Obj)} {cs cs' : List Nat} (hT : st.texts.Nodup) (hF : st.funs.Nodup) (h1 : s.heap.get? p = some (insObj nm t vals)) (h2 : s.heap.get? q = some (insObj nm t' vals')) (x : OpsV w st cs ds vals own) (y : OpsV w st cs' ds vals' own') (H1 : Held own s.heap) (H2 : Held own' s.heap) (off : ∀ a ∈ own, ∀ b ∈ own', a.1 ≠ b.1) (hu : A.units + 2 < cLine) :
    SeqAt.RcNeAt A s (.ref p) (.ref q) false := by
  have l1 := x.len
  have l2 := y.len
  have hsz : (Value.str nm t :: vals).toArray.size = (Value.str nm t' :: vals').toArray.size := by simp; walk_at "mine om"
  have := SeqAt.RcNeAt.tuples (s := s) (A := A) (e := fun _ => true) ⟨_, h1, rfl, _, rfl⟩ ⟨_, h2, rfl, _, rfl⟩ (by walk_at "mine om") (fun j j1 j2 => ?_)
  · rw [hsz, all_true] at this
    simpa using this
  · cases j with
    | zero => exact eqAt_str
    | succ j =>
      simp only [List.size_toArray, List.length_cons] at j1 j2
      refine let_goal ?_
      intro gl_P
      obtain ⟨c, d, v, o1, _, g2, g3, _, g5, g6⟩ := x.get (i := j) (by walk_at "mine om")
      obtain ⟨c', d', v', o2, _, q2, q3, _, q5, q6⟩ := y.get (i := j) (by walk_at "mine om")
      dsimp only [gl_P]
      clear gl_P
      rw [g2] at q2
      obtain rfl := Option.some.inj q2
      have e1 : (Value.str nm t :: vals).toArray[j + 1]'(by simpa using j1) = v := by
        have : (Value.str nm t :: vals).toArray[j + 1]? = some v := by simpa using g3
        rw [Array.getElem?_eq_getElem (by simpa using j1)] at this
        exact Option.some.inj this
      have e2 : (Value.str nm t' :: vals').toArray[j + 1]'(by simpa using j2) = v' := by
        have : (Value.str nm t' :: vals').toArray[j + 1]? = some v' := by simpa using q3
        rw [Array.getElem?_eq_getElem (by simpa using j2)] at this
        exact Option.some.inj this
      rw [e1, e2]
      exact eqAt_op hT hF g5 q5 (fun a ha => H1 a (g6 a ha)) (fun a ha => H2 a (q6 a ha)) (fun a ha b hb => off a (g6 a ha) b (q6 b hb)) (by show A.units + 1 + 1 < cLine; walk_at "mine om")
theorem rcne_texts {p q : Addr} {vs vs' : Array Value} {ws : List Str} (h1 : s.heap.IsList p vs) (h2 : s.heap.IsList q vs') (x : StrsAre vs.toList ws) (y : StrsAre vs'.toList ws) (hu : A.units < cLine) : SeqAt.RcNeAt A s (.ref p) (.ref q) false := by
  have e1 := strsAre_size x
  have e2 := strsAre_size y
  have := SeqAt.RcNeAt.lists (s := s) (A := A) (e := fun _ => true) h1 h2 (by walk_at "mine om") hu (fun j j1 j2 => ?_)
  · rw [all_true] at this; exact this
  · obtain ⟨z, t, g1, g2⟩ := strsAre_at x (i := j) (v := vs[j]) (by simp [j1])
    refine let_goal ?_
    intro gl_P
    obtain ⟨z', t', q1, q2⟩ := strsAre_at y (i := j) (v := vs'[j]) (by simp [j2])
    dsimp only [gl_P]
    clear gl_P
    rw [g1] at q1
    obtain rfl := Option.some.inj q1
    rw [g2, q2]; exact eqAt_str
end
inductive PartsV (w : World) (st : SymSt) : List (Option Opd) → List Value → List (Addr × Obj) → Prop
  | nil : PartsV w st [] [] []
  | snoc {rs : List (Option Opd)} {vs : List Value} {own own' : List (Addr × Obj)} {r : Option Opd} {v : Value} : PartsV w st rs vs own → PartV w st r v own' → PartsV w st (rs ++ [r]) (vs ++ [v]) (own' ++ own)
theorem PartV.le {w : World} {st st' : SymSt} (q : st.le st') {r : Option Opd} {v : Value} {own : List (Addr × Obj)} (x : PartV w st r v own) : PartV w st' r v own := by
  cases r with
  | none => exact x
  | some d => exact OpV.le q x
theorem PartsV.le {w : World} {st st' : SymSt} (q : st.le st') {rs : List (Option Opd)} {vs : List Value} {own : List (Addr × Obj)} (x : PartsV w st rs vs own) : PartsV w st' rs vs own := by
  induction x with
  | nil => exact .nil
  | snoc _ h ih => exact .snoc ih (h.le q)
theorem PartsV.len {w : World} {st : SymSt} {rs : List (Option Opd)} {vs : List Value} {own : List (Addr × Obj)} (x : PartsV w st rs vs own) : vs.length = rs.length := by
  induction x with
  | nil => rfl
  | snoc _ _ ih => simp [ih]
noncomputable def isNoneV : Value → Bool
  | .none => true
  | _ => false
theorem PartsV.nones {w : World} {A : Around} {s : Shared} {st : SymSt} {rs : List (Option Opd)} {vs : List Value} {own : List (Addr × Obj)} (x : PartsV w st rs vs own) (H : Held own s.heap) (hu : A.units < cLine) : (∀ y ∈ vs, SeqAt.EqAt A s y .none (isNoneV y)) ∧ (vs.any isNoneV) = (seqO rs).isNone := by
  refine ⟨?_, ?_⟩
  · induction x with
    | nil => intro y hy; cases hy
    | @snoc rs vs own own' r v _ h ih =>
      intro y hy
      rcases List.mem_append.mp hy with hy | hy
      · exact ih (fun q hq => H q (List.mem_append.mpr (.inr hq))) y hy
      · rw [List.mem_singleton.mp hy]
        have H' : Held own' s.heap := fun q hq => H q (List.mem_append.mpr (.inl hq))
        cases r with
        | none => obtain ⟨rfl, _⟩ := h; exact SeqAt.EqAt.same _
        | some d =>
          cases h with
          | reg y i p t1 t2 => exact SeqAt.EqAt.tuple_none ⟨_, H' _ (.head _), rfl, _, rfl⟩ hu
          | con p t1 t2 h => exact SeqAt.EqAt.tuple_none ⟨_, H' _ (.head _), rfl, _, rfl⟩ hu
          | fn t h1 h2 => exact SeqAt.EqAt.int_none _ _
          | num i t => exact SeqAt.EqAt.int_none _ _
          | tabT D o hl h => obtain ⟨es, ep, xs, hc, hd, _⟩ := h; exact eqAt_dict_none (H' _ (.head _)) hc hd hu
          | tabU D o hl h => obtain ⟨kvs, l', ⟨es, ep, hc, hd, _⟩, _⟩ := h; exact eqAt_dict_none (H' _ (.head _)) hc hd hu
  · clear H
    induction x with
    | nil => rfl
    | @snoc rs vs own own' r v _ h ih =>
      rw [List.any_append, ih, seqO_snoc]
      cases r with
      | none => obtain ⟨rfl, _⟩ := h; cases seqO rs <;> rfl
      | some d => cases h <;> cases seqO rs <;> rfl
theorem PartsV.ops {w : World} {st : SymSt} {cs cs' : List Nat} {ws : List Str} {r0s rs : List (Option Opd)} (h : LawW cs cs' ws r0s rs) : ∀ {vs : List Value} {own : List (Addr × Obj)}, PartsV w st rs vs own → ∀ ds, seqO rs = some ds → OpsV w st cs ds vs own := by
  induction h with
  | nil =>
    intro vs own x ds hd
    cases hd
    generalize hr : ([] : List (Option Opd)) = rs at x
    cases x with
    | nil => exact .nil
    | snoc _ _ => simp at hr
  | @snoc cs cs' ws g r0s rs c c' r0 r h G ih =>
    intro vs own x ds hd
    generalize hr : rs ++ [r] = rs2 at x
    cases x with
    | nil => simp at hr
    | @snoc rs3 vs own own' r3 v x' hp =>
      obtain ⟨rfl, e⟩ := List.append_inj' hr rfl
      simp only [List.cons.injEq, and_true] at e
      subst e
      rw [seqO_snoc] at hd
      cases q : seqO rs with
      | none => rw [q] at hd; cases hd
      | some ds' =>
        rw [q] at hd
        cases r with
        | none => cases hd
        | some d =>
          cases hd
          exact .snoc (ih x' ds' q) (G.text d rfl).2.2 hp
theorem off_RD0 : True := by
  w_top off
  trivial
structure FormsO (w : World) (tb : Addr) (ob : Obj) : Prop where
  low : (tb == sysModules) = false
  kvs : ∃ kvs, ob.IsDictOf (PySem.strKind PG w) kvs ∧ PyProof.V.FlatPairs PyData.str kvs (datS shapesL)
theorem FormsO.at {w : World} {tb : Addr} {ob : Obj} {h : Heap} (x : FormsO w tb ob) (ho : h.get? tb = some ob) : FormsAt tb (datS shapesL) w h :=
  let ⟨kvs, a, b⟩ := x.kvs; TabAt.ofObj x.low ho a b
inductive DueV (w : World) (st : SymSt) (nm ks : Str) (wf : List Str) (R : List (Addr × Obj)) : Option (List Opd) → Value → Prop
  | none : DueV w st nm ks wf R none .none
  | some {ds : List Opd} {vals : List Value} {own : List (Addr × Obj)} (q : Addr) (t : Tok) : (q, insObj nm t vals) ∈ R → (∀ x ∈ own, x ∈ R) → OpsV w st ks.cps.toList ds vals own → (∀ d ∈ ds, OpdOk d) → nm :: ds.flatMap opT = wf → DueV w st nm ks wf R (some ds) (.ref q)
theorem getD_words {nm : Str} {ws : List Str} (hw : ∀ x ∈ ws, WordOk x ∧ EntryOk x) : (∀ j, 0 < j → EntryOk ((nm :: ws).getD j Str.empty)) ∧ (∀ j, 0 < j → j < (nm :: ws).length → WordOk ((nm :: ws).getD j Str.empty)) := by
  constructor
  · intro j hj
    cases j with
    | zero => walk_at "mine om"
    | succ j =>
      rcases Nat.lt_or_ge j ws.length with h | h
      · have e : (nm :: ws).getD (j + 1) Str.empty = ws[j] := by simp [List.getD_eq_getElem?_getD, h]
        rw [e]; exact (hw _ (List.getElem_mem h)).2
      · have e : (nm :: ws).getD (j + 1) Str.empty = Str.empty := by simp [List.getD_eq_getElem?_getD, h]
        rw [e]
        exact ⟨by decide, fun q => absurd (by decide +kernel) q⟩
  · intro j hj hl
    cases j with
    | zero => walk_at "mine om"
    | succ j =>
      have h : j < ws.length := by simpa using hl
      have e : (nm :: ws).getD (j + 1) Str.empty = ws[j] := by simp [List.getD_eq_getElem?_getD, h]
      rw [e]; exact (hw _ (List.getElem_mem h)).1
section
variable {w : World} {mean : ExcName → Option Value} {mg mb : Str → Option Value} {dp un : Nat} {gd : Option (List Code)} {cn : Str} {cs : Scope} {ca : Addr} {ccd : Value} {A₀ : Around} {base h₀ : Heap} {L : Addr} {m : Str → Option Value} {Q E : Value → Shared → Prop}
theorem useRead {a : SymA} {st : SymSt} {c : Nat} {sy R : List (Addr × Obj)} {wl tb : Addr} {ob : Obj} {its : Array Value} {nw : Nat} {nm ks' : Str} {wf ws : List Str} {du : Option (List Opd)} {h : Heap} {gn : Array GenState} {dr : Drawn} {tk : Nat} {os : OsState}
    (B : Below A₀ base [] h₀) (F : Fr h₀ L h m) (X : (Mine.hd.heap_1 w.params).In h₀) (XB : (Mine.hd.heap_1 w.params).In base) (N : News h₀ L h (R ++ symR w a sy)) (T : Top PV LO mean mg mb h₀) (TB : Top PV LO mean mg mb base) (hk : cs.kind = .function)
    (hd : dp + 28 < recursionLimit) (hu : un + 480 < cLine) (P : SyP w a st c sy) (hc : c + 650 < 10000) (off : ∀ q ∈ R, ∀ p ∈ symR w a sy, p.1 ≠ q.1) (hwl : (wl, W.listOf its nw) ∈ R) (hob : (tb, ob) ∈ R) (hfo : FormsO w tb ob) (hits : StrsAre its.toList wf) (hw : wf = nm :: ws) (hww : ∀ x ∈ ws, WordOk x ∧ EntryOk x) (hwz : wf.length ≤ 30)
    (hnm : nm.length ≤ 30) (hks' : ks'.length ≤ 10) (hkk' : ∀ x ∈ ks'.cps.toList, x ∈ kindL)
    (hj : nm = Str.ofString "jump" → (PySem.Spec.lookup (.str nm) (datS shapesL)).isSome = false ∧ du = none) (hnj : nm ≠ Str.ofString "jump" → PySem.Spec.lookup (.str nm) (datS shapesL) = some (.str ks') ∧ insS ks'.cps.toList wf = du)
    (ret : ∀ v h' tk' own st' sy', Fr h₀ L h' m → News h₀ L h' (R ++ (own ++ symR w a sy')) → SyP w a st' (c + 650) sy' → (∀ q ∈ R, ∀ p ∈ own ++ symR w a sy', p.1 ≠ q.1) → (∀ q ∈ own, ∀ p ∈ symR w a sy', p.1 ≠ q.1) → ((own = [] ∧ v = .none ∧ du = none ∧ st.le st') ∨ InsV w ks'.cps.toList nm du st v own st') → Q v ⟨h', gn, dr, tk', os⟩) :
    wpAny (model PG w) (ktrTop dp un gd cn cs L ca ccd [] []) (call (.ref 425) [.ref a.s, .ref wl, .ref tb]) Q E ⟨h, gn, dr, tk, os⟩ := by
  have hq : ∀ {b : Addr} {o : Obj}, (b, o) ∈ R → b ∉ (symR w a sy).map (·.1) := fun {b o} hb hm => by
    obtain ⟨p, hp, e⟩ := List.mem_map.mp hm
    exact off _ hb p hp e
  have g0 : wf.getD 0 Str.empty = nm := by rw [hw]; rfl
  have hl0 : 0 < wf.length := by rw [hw]; simp
  have hc10 : 10 * (2 * wf.length + 2) ≤ 650 := Nat.le_trans (Nat.mul_le_mul_left 10 (Nat.add_le_add_right (Nat.mul_le_mul_left 2 hwz) 2)) (by decide)
  have hcr : c + 10 * (2 * wf.length + 2) < 10000 := Nat.lt_of_le_of_lt (Nat.add_le_add_left hc10 c) hc
  have hcm : c + 10 * (2 * wf.length + 2) ≤ c + 650 := Nat.add_le_add_left hc10 c
  have hlist : ∀ h₀ L h, News h₀ L h (R ++ symR w a sy) → h.IsList wl its ∧ FormsAt tb (datS shapesL) w h := fun h₀ L h N => ⟨⟨_, N.get (List.mem_append.mpr (.inl hwl)), rfl, _, rfl⟩, hfo.at (N.get (List.mem_append.mpr (.inl hob)))⟩
  by_cases hjm : nm = Str.ofString "jump"
  · obtain ⟨hl, hdn⟩ := hj hjm
    refine law_read_of w mean mg mb a st c c sy R wl tb True _ (fun _ _ _ => False) P (read_instruction_lacks w mean mg mb a st c sy wl tb its wf (datS shapesL) (by rw [g0]; exact hl) (by rw [g0]; exact hnm) hl0 (by walk_at "mine om") (hq hwl) (hq hob) (fun _ _ _ => False)) off (fun h₀ L h N => ⟨P, (hlist h₀ L h N).1, hits, (hlist h₀ L h N).2⟩) _ _ _ _ _ _ _ _ _ _ _ _ ⟨h, gn, dr, tk, os⟩ _ _ B F X XB N T TB hk hd hu ⟨P, (hlist _ _ _ N).1, hits, (hlist _ _ _ N).2⟩ ?_
    rintro v h' tk' news' F' N' ⟨own, st', sy', P', e, o1, o2, hv⟩
    subst e
    rcases hv with ⟨e1, e2, _, le⟩ | hf
    · exact ret v h' tk' own st' sy' F' N' (P'.more (by walk_at "mine om")) o1 o2 (.inl ⟨e1, e2, hdn, le⟩)
    · exact hf.elim
  · obtain ⟨hl, hi⟩ := hnj hjm
    obtain ⟨k1, k2⟩ := getD_words (nm := nm) hww
    have hcc : 10 * (2 * wf.length + 2) ≤ 620 := by walk_at "mine om"
    refine law_read_of w mean mg mb a st c (c + 10 * (2 * wf.length + 2)) sy R wl tb (insS ks'.cps.toList wf = none) _ (InsV w ks'.cps.toList (wf.getD 0 Str.empty) (insS ks'.cps.toList wf) st) P (read_instruction_spec w mean mg mb a st c sy wl tb its wf (datS shapesL) ks' (by rw [g0]; exact hl) hks' hkk' (by rw [g0]; exact hnm) hl0 (by walk_at "mine om") (by rw [hw]; exact k1) (by rw [hw]; exact k2) (hq hwl) (hq hob)) off (fun h₀ L h N => ⟨P, by walk_at "mine om", (hlist h₀ L h N).1, hits, (hlist h₀ L h N).2⟩) _ _ _ _ _ _ _ _ _ _ _ _ ⟨h, gn, dr, tk, os⟩ _ _ B F X XB N T TB hk hd hu ⟨P, by walk_at "mine om", (hlist _ _ _ N).1, hits, (hlist _ _ _ N).2⟩ ?_
    rintro v h' tk' news' F' N' ⟨own, st', sy', P', e, o1, o2, hv⟩
    subst e
    rw [hi] at hv
    rw [g0] at hv
    rcases hv with ⟨e1, e2, e3, le⟩ | hf
    · exact ret v h' tk' own st' sy' F' N' (P'.more (by walk_at "mine om")) o1 o2 (.inl ⟨e1, e2, e3, le⟩)
    · exact ret v h' tk' own st' sy' F' N' (P'.more (by walk_at "mine om")) o1 o2 (.inr hf)
end
end
section
theorem words_J46 : True := by
  k_with "J46 call ref" => ((with_reducible show wpAny _ _ (call (Value.ref 411) _) _ _ _); refine Hold.in ?_)
  k_with "J46 call ref" => ((with_reducible show wpAny _ _ (call (Value.ref 418) _) _ _ _); refine Hold.in ?_)
  k_with "J46 call builtin:list.append" => refine Hold.in ?_
  trivial
local macro_rules | `(tactic| walk_at $s) => fwd "J46 " s
theorem off_KT1 : True := by
  w_top off
  trivial
local macro_rules | `(tactic| walk_at $s) => Lean.Macro.throwUnsupported
theorem kind_S (w mean mg mb) (dp un : Nat) (gd : Option (List Code)) (fr : List Env) (base g h : Heap) (nm : Str) (L fa : Addr) (cd : Value) (m : Str → Option Value) (a : SymA) (st : SymSt) (c : Nat) (sy : List (Addr × Obj)) (fl wl pl : Addr) (us : List Value) (n : Nat) (its : Array Value) (nw : Nat) (pits : Array Value) (np : Nat) (R : List (Addr × Obj)) (k k' : Nat) (tk0 : Tok) (gn : Array GenState) (dr : Drawn) (tk : Nat) (os : OsState) (Q : Flow → Shared → Prop) (E : Value → Shared → Prop)
    (hk : k ∈ [82, 88, 89, 67, 70, 78]) (hkk : Cmp k k')
    (B : Below { handled := none, depth := dp, frames := some fr, guards := gd, units := un } base fr g)
    (F : Fr g L h (kstB m [(Str.ofString "figures", .ref fl), (Str.ofString "signs", .ref a.s), (Str.ofString "words", .ref wl), (Str.ofString "parts", .ref pl), (Str.ofString "kind", .str ⟨#[k]⟩ tk0)])) (X : (Mine.hd.heap_1 w.params).In g)
    (N : News g L h (((fl, W.listOf us.toArray n) :: (wl, W.listOf its nw) :: (pl, W.listOf pits np) :: R) ++ symR w a sy)) (T : Top PV LO mean mg mb g)
    (hd : dp + 20 < recursionLimit) (hu : un + 300 < cLine) (hf : FigL us) (hits : its.size ≤ 1000) (hpits : pits.size ≤ 100) (P : SyP w a st c sy) (hc : c + 20 < 10000) (hfar : Far ((fl, W.listOf us.toArray n) :: (wl, W.listOf its nw) :: (pl, W.listOf pits np) :: R) (symR w a sy))
    (ret : ∀ h' tk' m' us' n' its' nw' np' v own gr r0 r st' sy', FigL us' → Fr g L h' m' → News g L h' (((fl, W.listOf us'.toArray n') :: (wl, W.listOf its' nw') :: (pl, W.listOf (pits.push v) np') :: (own ++ R)) ++ symR w a sy') → (∀ ws, StrsAre its.toList ws → StrsAre its'.toList (ws ++ gr)) → Grp k k' gr r0 r → PartV w st' r v own → SyP w a st' (c + 20) sy' → st.le st' →
      Far ((fl, W.listOf us'.toArray n') :: (wl, W.listOf its' nw') :: (pl, W.listOf (pits.push v) np') :: (own ++ R)) (symR w a sy') → (∀ z, z ≠ Str.ofString "part" → z ≠ Str.ofString "told" → z ≠ Str.ofString "key" → z ≠ Str.ofString "step" → m' z = kstB m [(Str.ofString "figures", .ref fl), (Str.ofString "signs", .ref a.s), (Str.ofString "words", .ref wl), (Str.ofString "parts", .ref pl), (Str.ofString "kind", .str ⟨#[k]⟩ tk0)] z) → Q .next ⟨h', gn, dr, tk', os⟩) :
    wpAny (model PG w) (({ handled := none, depth := dp, frames := some fr, guards := gd, units := un } : Around).deeper (envOf nm lawScope L fa cd)) (execs kindBody (envOf nm lawScope L fa cd)) Q E ⟨h, gn, dr, tk, os⟩ := by
  refine' code_let ?hcb ?hcs ?_
  case hcb => dsimp only [kindBody, turnBody, stAt, lawScope, fnAt, PySem.Challenge.pw_rh0084_01, List.getD, List.getElem?_cons_succ, List.getElem?_cons_zero, Option.getD, stBody, fnScope, stParts, List.drop] <;> exact rfl
  case hcs => dsimp only [kindBody, turnBody, stAt, lawScope, fnAt, PySem.Challenge.pw_rh0084_01, List.getD, List.getElem?_cons_succ, List.getElem?_cons_zero, Option.getD, stBody, fnScope, stParts, List.drop] <;> exact rfl
  intro env9 A9
  have hin := occ_TU k hk
  k_steps
  unfold Hold
  rename News _ _ _ _ => N0
  refine' useWord (law_word_code w mean mg mb fl us n hk _) ?k1 ?k2 ?k3 (news_tl N0) ?k5 ?kK ?kd ?ku hf (Far.head hfar) ?_
  case k1 => k_asm
  case k2 => k_asm
  case k3 => k_asm
  case k5 => k_asm
  case kK => first | exact rfl | assumption
  case kd => ktr_room
  case ku => ktr_units
  intro p so nu t1 t2 t3 h1 tk1 us1 n1 hso hnu hf1 F1 N1 hlp hRp
  clear N0
  have N2 := news_sub N1 mem_k1
  clear N1
  have hfar1 : Far ((p, wordObj so nu t1 t2 t3) :: (fl, W.listOf us1.toArray n1) :: (wl, W.listOf its nw) :: (pl, W.listOf pits np) :: R) (symR w a sy) := (hfar.set (o' := W.listOf us1.toArray n1)).cons fun q hq => by
    rcases List.mem_cons.mp hq with rfl | hq
    · exact hlp
    · exact hRp q hq
  have hwl := (word_all so hso nu hnu).1.1
  (try k_fold)
  (try k_sweep)
  k_steps
  unfold Hold
  rename News _ _ _ _ => N3
  refine append_head (v := .str (wordS so nu) _) (by assumption) N3 (hfar1.perm perm_k1).head (by walk_at "mine om") (fun h8 F8 N8 => ?_)
  clear N3
  obtain ⟨tv, N9⟩ : ∃ tv, News g L h8 ((wl, W.listOf (its.push (.str (wordS so nu) tv)) (nw + 1)) :: (p, wordObj so nu t1 t2 t3) :: (fl, W.listOf us1.toArray n1) :: (pl, W.listOf pits np) :: (R ++ symR w a sy)) := ⟨_, N8⟩
  clear N8
  have N10 := news_sub N9 mem_k2
  clear N9
  have hfar2 : Far ((p, wordObj so nu t1 t2 t3) :: (fl, W.listOf us1.toArray n1) :: (wl, W.listOf (its.push (.str (wordS so nu) tv)) (nw + 1)) :: (pl, W.listOf pits np) :: R) (symR w a sy) := ((hfar1.perm perm_k1).set).perm perm_k1.symm
  (try k_fold)
  (try k_sweep)
  k_steps
  unfold Hold
  rename News _ _ _ _ => N11
  refine' Spec.useOh (law_operand_code w mean mg mb a st c sy p (wordS so nu) so nu _ t1 t2 t3 hfar2.off hk) (fun _ _ _ z => z) ?k1 ?k2 ?k3 N11 ?k5 ?kK ?kd ?ku ?kp hfar2.2 ?_ ?kth
  case k1 => k_asm
  case k2 => k_asm
  case k3 => k_asm
  case k5 => k_asm
  case kK => first | exact rfl | assumption
  case kd => ktr_room
  case ku => ktr_units
  case kp => exact ⟨P, by walk_at "mine om", isTup_of (N11 _ (.head _)).1⟩
  case kth => exact fun _ _ _ x => x.no
  intro v9 h9 tk9 own9 st9 sy9 q9 P9 F9 N9 O9 D9 S9
  clear N11
  obtain ⟨q9, le9⟩ := q9
  have hfar3 := (hfar2.call (OpV.nodup_small q9) O9 D9 S9).perm perm_k3
  have N12 := news_sub N9 mem_k3
  clear N9
  (try k_fold)
  (try k_sweep)
  k_steps
  unfold Hold
  rename News _ _ _ _ => N13
  refine append_head (v := v9) (by assumption) N13 hfar3.head (by walk_at "mine om") (fun h7 F7 N7 => ?_)
  clear N13
  (try k_fold)
  (try k_sweep)
  k_steps
  rename Fr _ _ _ _ => F6
  rename News _ _ _ _ => N6
  obtain ⟨r0, G⟩ := grp_word hso hnu hk hkk
  refine' ret _ _ _ us1 n1 _ _ _ v9 own9 _ r0 _ st9 sy9 hf1 F6 (news_sub N6 mem_k4) (fun ws hw => strsAre_pushS hw) G q9 (P9.more (by walk_at "mine om")) le9 ?kf ?kz
  case kf => exact ((hfar3.set (o' := W.listOf (pits.push v9) (np + 1))).sub (.cons_cons _ (.cons _ (List.Sublist.refl _)))).perm perm_k4
  case kz => intro z h1 h2 h3 h4; simp [h1, h2, h3, h4]
end
section
theorem words_J47 : True := by
  k_with "J47 call ref" => ((with_reducible show wpAny _ _ (call (Value.ref 411) _) _ _ _); refine Hold.in ?_)
  k_with "J47 call ref" => ((with_reducible show wpAny _ _ (call (Value.ref 418) _) _ _ _); refine Hold.in ?_)
  k_with "J47 call builtin:list.append" => refine Hold.in ?_
  k_with "J47 compareOp In ref ref" => refine Hold.in ?_
  k_with "J47 compareOp In int ref" => refine Hold.in ?_
  k_with "J47 setItem" => refine Hold.in ?_
  trivial
local macro_rules | `(tactic| walk_at $s) => fwd "J47 " s
theorem off_STP1 : True := by
  w_top off
  trivial
theorem perm_own {α : Type} {own X : List α} {p f w : α} : (own ++ (p :: f :: w :: X)).Perm (w :: p :: f :: (own ++ X)) := by
  have h1 : (own ++ (p :: f :: w :: X)).Perm (p :: f :: w :: (own ++ X)) := by
    have := (List.perm_append_comm (l₁ := own) (l₂ := [p, f, w])).append_right X
    simpa using this
  exact h1.trans (List.perm_middle (l₁ := [p, f]) (a := w) (l₂ := own ++ X))
theorem mem_own1 {α : Type} {x a b c : α} {l m : List α} : ∀ q ∈ a :: x :: b :: c :: (l ++ m), q ∈ a :: b :: c :: (([x] ++ l) ++ m) := Sub.out (by walk_at "mine sub")
theorem step_T (w mean mg mb) (dp un : Nat) (gd : Option (List Code)) (fr : List Env) (base g h : Heap) (nm : Str) (L fa : Addr) (cd : Value) (m : Str → Option Value) (a : SymA) (st : SymSt) (c : Nat) (sy : List (Addr × Obj)) (fl wl : Addr) (us : List Value) (n : Nat) (its : Array Value) (nw : Nat) (pt : Option (List ((Int ⊕ Str) × Int))) (pv : Value) (po R : List (Addr × Obj)) (sp : Int) (ts tp : Tok) (gn : Array GenState) (dr : Drawn) (tk : Nat) (os : OsState) (Q : Flow → Shared → Prop) (E : Value → Shared → Prop)
    (B : Below { handled := none, depth := dp, frames := some fr, guards := gd, units := un } base fr g)
    (F : Fr g L h (kstB m [(Str.ofString "figures", .ref fl), (Str.ofString "signs", .ref a.s), (Str.ofString "words", .ref wl), (Str.ofString "kind", .str (Str.ofString "T") ts), (Str.ofString "part", pv), (Str.ofString "step", .int sp tp)])) (X : (Mine.hd.heap_1 w.params).In g)
    (N : News g L h ((fl, W.listOf us.toArray n) :: (wl, W.listOf its nw) :: (po ++ R) ++ symR w a sy)) (T : Top PV LO mean mg mb g)
    (hd : dp + 20 < recursionLimit) (hu : un + 300 < cLine) (hf : FigL us) (hits : its.size ≤ 16000) (hp : PartT w st pt pv po) (P : SyP w a st c sy) (hc : c + 2 < 10000) (hsp : sp ∈ stepL) (hpl : ∀ l, pt = some l → l.length ≤ 100) (hfar : Far ((fl, W.listOf us.toArray n) :: (wl, W.listOf its nw) :: (po ++ R)) (symR w a sy))
    (ret : ∀ h' tk' m' us' n' nw' pv' po' st' sy' so nu t1, so ∈ sortL → nu ∈ numL → FigL us' → Fr g L h' m' → News g L h' ((fl, W.listOf us'.toArray n') :: (wl, W.listOf (its.push (.str (entS so nu sp) t1)) nw') :: (po' ++ R) ++ symR w a sy') → PartT w st' (stepP (keyC (wordS so nu) so nu) sp pt) pv' po' → SyP w a st' (c + 2) sy' → st.le st' →
      Far ((fl, W.listOf us'.toArray n') :: (wl, W.listOf (its.push (.str (entS so nu sp) t1)) nw') :: (po' ++ R)) (symR w a sy') → m' (Str.ofString "part") = some pv' → (∀ z, z ≠ Str.ofString "told" → z ≠ Str.ofString "key" → z ≠ Str.ofString "part" → m' z = kstB m [(Str.ofString "figures", .ref fl), (Str.ofString "signs", .ref a.s), (Str.ofString "words", .ref wl), (Str.ofString "kind", .str (Str.ofString "T") ts), (Str.ofString "part", pv), (Str.ofString "step", .int sp tp)] z) → Q .next ⟨h', gn, dr, tk', os⟩) :
    wpAny (model PG w) (({ handled := none, depth := dp, frames := some fr, guards := gd, units := un } : Around).deeper (envOf nm lawScope L fa cd)) (execs stepBody (envOf nm lawScope L fa cd)) Q E ⟨h, gn, dr, tk, os⟩ := by
  refine' code_let ?hcb ?hcs ?_
  case hcb => dsimp only [stepBody, kindBody, turnBody, stAt, lawScope, fnAt, PySem.Challenge.pw_rh0084_01, List.getD, List.getElem?_cons_succ, List.getElem?_cons_zero, Option.getD, stBody, fnScope, stParts, List.drop] <;> exact rfl
  case hcs => dsimp only [stepBody, kindBody, turnBody, stAt, lawScope, fnAt, PySem.Challenge.pw_rh0084_01, List.getD, List.getElem?_cons_succ, List.getElem?_cons_zero, Option.getD, stBody, fnScope, stParts, List.drop] <;> exact rfl
  intro env9 A9
  have hsp2 : 0 ≤ sp ∧ sp ≤ 2 := by simp only [List.mem_cons, List.not_mem_nil, or_false] at hsp; walk_at "mine om"
  k_steps
  unfold Hold
  refine' useWord (law_word_kind w mean mg mb fl us n _ (.inr (.inr (.inr (.inl rfl)))) _) ?k1 ?k2 ?k3 N ?k5 ?kK ?kd ?ku hf (Far.head hfar) ?_
  case k1 => k_asm
  case k2 => k_asm
  case k3 => k_asm
  case k5 => k_asm
  case kK => first | exact rfl | assumption
  case kd => ktr_room
  case ku => ktr_units
  intro p so nu t1 t2 t3 h1 tk1 us1 n1 hso hnu hf1 F1 N1 hlp hRp
  have hfar1 : Far ((p, wordObj so nu t1 t2 t3) :: (fl, W.listOf us1.toArray n1) :: (wl, W.listOf its nw) :: (po ++ R)) (symR w a sy) := (hfar.set (o' := W.listOf us1.toArray n1)).cons fun q hq => by
    rcases List.mem_cons.mp hq with rfl | hq
    · exact hlp
    · exact hRp q hq
  have hwl := (word_all so hso nu hnu).1.1
  have hsl := step_len hsp
  (try k_fold)
  (try k_sweep)
  k_steps
  unfold Hold
  rename Fr _ _ _ _ => F2
  rename News _ _ _ _ => N2
  have N3 : News g L _ (((p, wordObj so nu t1 t2 t3) :: (fl, W.listOf us1.toArray n1) :: (wl, W.listOf its nw) :: (po ++ R)) ++ symR w a sy) := N2
  refine' Spec.useOh (law_operand_C w mean mg mb a st c sy p (wordS so nu) so nu _ t1 t2 t3 hfar1.off) (fun _ _ _ z => z) ?k1 ?k2 ?k3 N3 ?k5 ?kK ?kd ?ku ?kp hfar1.2 ?_ ?kth
  case k1 => k_asm
  case k2 => k_asm
  case k3 => k_asm
  case k5 => k_asm
  case kK => first | exact rfl | assumption
  case kd => ktr_room
  case ku => ktr_units
  case kp => exact ⟨P, by walk_at "mine om", isTup_of (N3 _ (.head _)).1⟩
  case kth => exact fun _ _ _ x => x.no
  intro v9 h9 tk9 own9 st9 sy9 q9 P9 F9 N9 O9 D9 S9
  clear N2 N3 F2
  obtain ⟨q9, le9⟩ := q9
  rw [lawC_key] at q9
  have hp9 := hp.le le9
  have hnd : (own9.map (·.1)).Nodup := by
    cases hK : keyC (wordS so nu) so nu with
    | none => rw [hK] at q9; rw [q9.2]; exact List.nodup_nil
    | some d => rw [hK] at q9; cases q9; simp
  have far9 := Far.call (own := own9) hfar1 hnd O9 D9 S9
  have N10 : News g L h9 ((wl, W.listOf its nw) :: (p, wordObj so nu t1 t2 t3) :: (fl, W.listOf us1.toArray n1) :: ((own9 ++ (po ++ R)) ++ symR w a sy9)) := news_sub N9 (Sub.out (by walk_at "mine sub"))
  have far10 : Far ((wl, W.listOf its nw) :: (p, wordObj so nu t1 t2 t3) :: (fl, W.listOf us1.toArray n1) :: (own9 ++ (po ++ R))) (symR w a sy9) := far9.perm perm_own
  clear N9
  (try k_fold)
  (try k_sweep)
  k_steps
  unfold Hold
  rename News _ _ _ _ => N11
  refine append_head (v := .str (entS so nu sp) _) (by assumption) N11 far10.head (by walk_at "mine om") (fun h8 F8 N8 => ?_)
  (try k_fold)
  (try k_sweep)
  cases hK : keyC (wordS so nu) so nu with
  | none =>
    rw [hK] at q9
    obtain ⟨e9, o9⟩ := q9
    subst e9 o9
    simp only [List.nil_append] at N8 far10
    k_steps
    rename Fr _ _ _ _ => F7
    rename News _ _ _ _ => N7
    refine' ret _ _ _ us1 n1 _ .none [] st9 sy9 so nu _ hso hnu hf1 F7 (news_sub N7 mem_st0) ?kp P9 le9 ?kf ?kq ?kz
    case kp => rw [hK]; exact .none
    case kf => exact ((far10.sub (Y := (wl, W.listOf its nw) :: (fl, W.listOf us1.toArray n1) :: R) (.cons_cons _ (.cons _ (.cons_cons _ (List.sublist_append_right _ _))))).set).perm (.swap _ _ _)
    case kq => rfl
    case kz => intro z h1 h2 h3; simp [h1, h2, h3]
  | some d =>
    rw [hK] at q9
    cases q9 with
    | @con _ k i p2 u1 u2 hcon =>
    replace N8 := news_sub N8 mem_own1
    replace far10 : Far ((wl, W.listOf its nw) :: (p2, keyObj k i u1 u2) :: (p, wordObj so nu t1 t2 t3) :: (fl, W.listOf us1.toArray n1) :: (po ++ R)) (symR w a sy9) := far10.perm ((List.perm_middle (l₁ := [_, _])).cons _)
    cases hp9 with
    | none =>
      k_steps
      rename Fr _ _ _ _ => F7
      rename News _ _ _ _ => N7
      refine' ret _ _ _ us1 n1 _ .none [] st9 sy9 so nu _ hso hnu hf1 F7 (news_sub N7 mem_st1) ?kp P9 le9 ?kf ?kq ?kz
      case kp => rw [hK]; exact .none
      case kf => exact ((far10.sub (Y := (wl, W.listOf its nw) :: (fl, W.listOf us1.toArray n1) :: R) (.cons_cons _ (.cons _ (.cons _ (.cons_cons _ (List.sublist_append_right _ _)))))).set).perm (.swap _ _ _)
      case kq => rfl
      case kz => intro z h1 h2 h3; simp [h1, h2, h3]
    | @some l ks D o low hT =>
      k_steps
      unfold Hold
      rename News _ _ _ _ => N12
      have N13 := news_sub N12 mem_st2
      have hlz : l.length ≤ 10000 := by have := hpl l rfl; walk_at "mine om"
      refine' in_tabT hT N13 (.head _) (fun q hq => .tail _ (.tail _ (.tail _ (.tail _ (.tail _ (List.mem_append.mpr (.inl (List.mem_append.mpr (.inl hq))))))))) (.tail _ (.tail _ (.head _))) (SyP.nodT P9) hcon low (by ktr_units) ?_
      clear N12
      k_steps
      · rename Fr _ _ _ _ => F7
        rename News _ _ _ _ => N7
        rename hasK l d = true => hyes
        refine' ret _ _ _ us1 n1 _ .none [] st9 sy9 so nu _ hso hnu hf1 F7 (news_sub N7 mem_st4) ?kp P9 le9 ?kf ?kq ?kz
        case kp => rw [hK]; unfold stepP; dsimp only; rw [if_pos hyes]; exact .none
        case kf => exact ((far10.sub (Y := (wl, W.listOf its nw) :: (fl, W.listOf us1.toArray n1) :: R) (.cons_cons _ (.cons _ (.cons _ (.cons_cons _ (List.sublist_append_right _ _)))))).set).perm (.swap _ _ _)
        case kq => rfl
        case kz => intro z h1 h2 h3; simp [h1, h2, h3]
      · unfold Hold
        rename News _ _ _ _ => N7
        rename hasK l d = false => hno
        obtain ⟨tv, N7⟩ : ∃ tv, News g L _ ((D, o) :: (wl, W.listOf (its.push (.str (entS so nu sp) tv)) (nw + 1)) :: (p2, keyObj k i u1 u2) :: (p, wordObj so nu t1 t2 t3) :: (fl, W.listOf us1.toArray n1) :: (ks ++ R ++ symR w a sy9)) := ⟨_, N7⟩
        have hr : ∀ q ∈ (wl, W.listOf (its.push (.str (entS so nu sp) tv)) (nw + 1)) :: (p2, keyObj k i u1 u2) :: (p, wordObj so nu t1 t2 t3) :: (fl, W.listOf us1.toArray n1) :: (ks ++ R ++ symR w a sy9), @Ne Nat q.1 D := (far10.set.perm perm_st2).head
        refine set_tabT hT (by assumption) N7 hr (fun q hq => .tail _ (.tail _ (.tail _ (.tail _ (List.mem_append.mpr (.inl (List.mem_append.mpr (.inl hq)))))))) (.tail _ (.head _)) (SyP.nodT P9) hcon hno hlz (by ktr_units) (fun h6 o6 F6 N6 T6 => ?_)
        clear N7
        (try k_fold)
        (try k_sweep)
        k_steps
        rename Fr _ _ _ _ => F7
        rename News _ _ _ _ => N7
        refine' ret _ _ _ us1 n1 _ _ ((D, o6) :: (p2, keyObj k i u1 u2) :: ks) st9 sy9 so nu _ hso hnu hf1 F7 (news_sub N7 mem_st3) ?kp P9 le9 ?kf ?kq ?kz
        case kp => rw [hK]; unfold stepP; dsimp only; rw [if_neg (by rw [hno]; decide)]; exact .some D o6 low T6
        case kf =>
          have f1 := far10.set (o' := W.listOf (its.push (.str (entS so nu sp) tv)) (nw + 1))
          have f2 := (f1.perm perm_st2).set (o' := o6)
          exact (f2.sub (Y := (D, o6) :: (wl, _) :: (p2, keyObj k i u1 u2) :: (fl, W.listOf us1.toArray n1) :: (ks ++ R)) (.cons_cons _ (.cons_cons _ (.cons_cons _ (.cons _ (List.Sublist.refl _)))))).perm perm_st3
        case kq => rfl
        case kz => intro z h1 h2 h3; simp [h1, h2, h3]
theorem off_STP2 : True := by
  w_top off
  trivial
theorem step_U (w mean mg mb) (dp un : Nat) (gd : Option (List Code)) (fr : List Env) (base g h : Heap) (nm : Str) (L fa : Addr) (cd : Value) (m : Str → Option Value) (a : SymA) (st : SymSt) (c : Nat) (sy : List (Addr × Obj)) (fl wl : Addr) (us : List Value) (n : Nat) (its : Array Value) (nw : Nat) (pt : Option (List ((Str × Int) × Int))) (pv : Value) (po R : List (Addr × Obj)) (sp : Int) (ts tp : Tok) (gn : Array GenState) (dr : Drawn) (tk : Nat) (os : OsState) (Q : Flow → Shared → Prop) (E : Value → Shared → Prop)
    (B : Below { handled := none, depth := dp, frames := some fr, guards := gd, units := un } base fr g)
    (F : Fr g L h (kstB m [(Str.ofString "figures", .ref fl), (Str.ofString "signs", .ref a.s), (Str.ofString "words", .ref wl), (Str.ofString "kind", .str (Str.ofString "U") ts), (Str.ofString "part", pv), (Str.ofString "step", .int sp tp)])) (X : (Mine.hd.heap_1 w.params).In g)
    (N : News g L h ((fl, W.listOf us.toArray n) :: (wl, W.listOf its nw) :: (po ++ R) ++ symR w a sy)) (T : Top PV LO mean mg mb g)
    (hd : dp + 20 < recursionLimit) (hu : un + 300 < cLine) (hf : FigL us) (hits : its.size ≤ 16000) (hp : PartU w st pt pv po) (P : SyP w a st c sy) (hc : c + 2 < 10000) (hsp : sp ∈ stepL) (hpl : ∀ l, pt = some l → l.length ≤ 100) (hfar : Far ((fl, W.listOf us.toArray n) :: (wl, W.listOf its nw) :: (po ++ R)) (symR w a sy))
    (ret : ∀ h' tk' m' us' n' nw' pv' po' st' sy' so nu t1, so ∈ sortL → nu ∈ numL → FigL us' → Fr g L h' m' → News g L h' ((fl, W.listOf us'.toArray n') :: (wl, W.listOf (its.push (.str (entS so nu sp) t1)) nw') :: (po' ++ R) ++ symR w a sy') → PartU w st' (stepP (keyF so nu) sp pt) pv' po' → SyP w a st' (c + 2) sy' → st.le st' →
      Far ((fl, W.listOf us'.toArray n') :: (wl, W.listOf (its.push (.str (entS so nu sp) t1)) nw') :: (po' ++ R)) (symR w a sy') → m' (Str.ofString "part") = some pv' → (∀ z, z ≠ Str.ofString "told" → z ≠ Str.ofString "key" → z ≠ Str.ofString "part" → m' z = kstB m [(Str.ofString "figures", .ref fl), (Str.ofString "signs", .ref a.s), (Str.ofString "words", .ref wl), (Str.ofString "kind", .str (Str.ofString "U") ts), (Str.ofString "part", pv), (Str.ofString "step", .int sp tp)] z) → Q .next ⟨h', gn, dr, tk', os⟩) :
    wpAny (model PG w) (({ handled := none, depth := dp, frames := some fr, guards := gd, units := un } : Around).deeper (envOf nm lawScope L fa cd)) (execs stepBody (envOf nm lawScope L fa cd)) Q E ⟨h, gn, dr, tk, os⟩ := by
  refine' code_let ?hcb ?hcs ?_
  case hcb => dsimp only [stepBody, kindBody, turnBody, stAt, lawScope, fnAt, PySem.Challenge.pw_rh0084_01, List.getD, List.getElem?_cons_succ, List.getElem?_cons_zero, Option.getD, stBody, fnScope, stParts, List.drop] <;> exact rfl
  case hcs => dsimp only [stepBody, kindBody, turnBody, stAt, lawScope, fnAt, PySem.Challenge.pw_rh0084_01, List.getD, List.getElem?_cons_succ, List.getElem?_cons_zero, Option.getD, stBody, fnScope, stParts, List.drop] <;> exact rfl
  intro env9 A9
  have hsp2 : 0 ≤ sp ∧ sp ≤ 2 := by simp only [List.mem_cons, List.not_mem_nil, or_false] at hsp; walk_at "mine om"
  k_steps
  unfold Hold
  refine' useWord (law_word_kind w mean mg mb fl us n _ (.inr (.inr (.inr (.inr (.inl rfl))))) _) ?k1 ?k2 ?k3 N ?k5 ?kK ?kd ?ku hf (Far.head hfar) ?_
  case k1 => k_asm
  case k2 => k_asm
  case k3 => k_asm
  case k5 => k_asm
  case kK => first | exact rfl | assumption
  case kd => ktr_room
  case ku => ktr_units
  intro p so nu t1 t2 t3 h1 tk1 us1 n1 hso hnu hf1 F1 N1 hlp hRp
  have hfar1 : Far ((p, wordObj so nu t1 t2 t3) :: (fl, W.listOf us1.toArray n1) :: (wl, W.listOf its nw) :: (po ++ R)) (symR w a sy) := (hfar.set (o' := W.listOf us1.toArray n1)).cons fun q hq => by
    rcases List.mem_cons.mp hq with rfl | hq
    · exact hlp
    · exact hRp q hq
  have hwl := (word_all so hso nu hnu).1.1
  have hsl := step_len hsp
  (try k_fold)
  (try k_sweep)
  k_steps
  unfold Hold
  rename Fr _ _ _ _ => F2
  rename News _ _ _ _ => N2
  have N3 : News g L _ (((p, wordObj so nu t1 t2 t3) :: (fl, W.listOf us1.toArray n1) :: (wl, W.listOf its nw) :: (po ++ R)) ++ symR w a sy) := N2
  refine' Spec.useOh (law_operand_F w mean mg mb a st c sy p (wordS so nu) so nu _ t1 t2 t3 hfar1.off) (fun _ _ _ z => z) ?k1 ?k2 ?k3 N3 ?k5 ?kK ?kd ?ku ?kp hfar1.2 ?_ ?kth
  case k1 => k_asm
  case k2 => k_asm
  case k3 => k_asm
  case k5 => k_asm
  case kK => first | exact rfl | assumption
  case kd => ktr_room
  case ku => ktr_units
  case kp => exact ⟨P, by walk_at "mine om", isTup_of (N3 _ (.head _)).1⟩
  case kth => exact fun _ _ _ x => x.no
  intro v9 h9 tk9 own9 st9 sy9 q9 P9 F9 N9 O9 D9 S9
  clear N2 N3 F2
  obtain ⟨q9, le9⟩ := q9
  rw [lawF_key] at q9
  have hp9 := hp.le le9
  have ho9 : own9 = [] := by
    cases hK : keyF so nu with
    | none => rw [hK] at q9; exact q9.2
    | some d => rw [hK] at q9; obtain ⟨y, j⟩ := d; cases q9; rfl
  subst ho9
  have far9 := Far.call (own := []) hfar1 List.nodup_nil O9 D9 S9
  have N10 : News g L h9 ((wl, W.listOf its nw) :: (p, wordObj so nu t1 t2 t3) :: (fl, W.listOf us1.toArray n1) :: ((po ++ R) ++ symR w a sy9)) := news_sub N9 (Sub.out (by walk_at "mine sub"))
  have far10 : Far ((wl, W.listOf its nw) :: (p, wordObj so nu t1 t2 t3) :: (fl, W.listOf us1.toArray n1) :: (po ++ R)) (symR w a sy9) := far9.perm (List.perm_middle (l₁ := [_, _]))
  clear N9
  (try k_fold)
  (try k_sweep)
  k_steps
  unfold Hold
  rename News _ _ _ _ => N11
  refine append_head (v := .str (entS so nu sp) _) (by assumption) N11 far10.head (by walk_at "mine om") (fun h8 F8 N8 => ?_)
  (try k_fold)
  (try k_sweep)
  cases hK : keyF so nu with
  | none =>
    rw [hK] at q9
    obtain ⟨e9, _⟩ := q9
    subst e9
    k_steps
    rename Fr _ _ _ _ => F7
    rename News _ _ _ _ => N7
    refine' ret _ _ _ us1 n1 _ .none [] st9 sy9 so nu _ hso hnu hf1 F7 (news_sub N7 mem_st0) ?kp P9 le9 ?kf ?kq ?kz
    case kp => rw [hK]; exact .none
    case kf => exact ((far10.sub (Y := (wl, W.listOf its nw) :: (fl, W.listOf us1.toArray n1) :: R) (.cons_cons _ (.cons _ (.cons_cons _ (List.sublist_append_right _ _))))).set).perm (.swap _ _ _)
    case kq => rfl
    case kz => intro z h1 h2 h3; simp [h1, h2, h3]
  | some d =>
    obtain ⟨y, j⟩ := d
    rw [hK] at q9
    cases q9 with
    | @fn _ _ i fno t9 hy hfn =>
    cases hp9 with
    | none =>
      k_steps
      rename Fr _ _ _ _ => F7
      rename News _ _ _ _ => N7
      refine' ret _ _ _ us1 n1 _ .none [] st9 sy9 so nu _ hso hnu hf1 F7 (news_sub N7 mem_st0) ?kp P9 le9 ?kf ?kq ?kz
      case kp => rw [hK]; exact .none
      case kf => exact ((far10.sub (Y := (wl, W.listOf its nw) :: (fl, W.listOf us1.toArray n1) :: R) (.cons_cons _ (.cons _ (.cons_cons _ (List.sublist_append_right _ _))))).set).perm (.swap _ _ _)
      case kq => rfl
      case kz => intro z h1 h2 h3; simp [h1, h2, h3]
    | @some l D o low hT =>
      k_steps
      unfold Hold
      rename News _ _ _ _ => N12
      have N13 := news_sub N12 mem_su2
      have hlz : l.length ≤ 10000 := by have := hpl l rfl; walk_at "mine om"
      refine' in_tabU hT N13 (.head _) (SyP.nodT P9) (SyP.nodF P9) (.mk hy hfn) low ?_
      clear N12
      k_steps
      · rename Fr _ _ _ _ => F7
        rename News _ _ _ _ => N7
        rename hasK l (y, j) = true => hyes
        refine' ret _ _ _ us1 n1 _ .none [] st9 sy9 so nu _ hso hnu hf1 F7 (news_sub N7 mem_su4) ?kp P9 le9 ?kf ?kq ?kz
        case kp => rw [hK]; unfold stepP; dsimp only; rw [if_pos hyes]; exact .none
        case kf => exact ((far10.sub (Y := (wl, W.listOf its nw) :: (fl, W.listOf us1.toArray n1) :: R) (.cons_cons _ (.cons _ (.cons_cons _ (List.sublist_append_right _ _))))).set).perm (.swap _ _ _)
        case kq => rfl
        case kz => intro z h1 h2 h3; simp [h1, h2, h3]
      · unfold Hold
        rename News _ _ _ _ => N7
        rename hasK l (y, j) = false => hno
        obtain ⟨tv, N7⟩ : ∃ tv, News g L _ ((D, o) :: (wl, W.listOf (its.push (.str (entS so nu sp) tv)) (nw + 1)) :: (p, wordObj so nu t1 t2 t3) :: (fl, W.listOf us1.toArray n1) :: (R ++ symR w a sy9)) := ⟨_, N7⟩
        have hr : ∀ q ∈ (wl, W.listOf (its.push (.str (entS so nu sp) tv)) (nw + 1)) :: (p, wordObj so nu t1 t2 t3) :: (fl, W.listOf us1.toArray n1) :: (R ++ symR w a sy9), @Ne Nat q.1 D := (far10.set.perm perm_su2).head
        refine set_tabU hT (by assumption) N7 hr (SyP.nodT P9) (SyP.nodF P9) (.mk hy hfn) hno hlz (fun h6 o6 F6 N6 T6 => ?_)
        clear N7
        (try k_fold)
        (try k_sweep)
        k_steps
        rename Fr _ _ _ _ => F7
        rename News _ _ _ _ => N7
        refine' ret _ _ _ us1 n1 _ _ [(D, o6)] st9 sy9 so nu _ hso hnu hf1 F7 (news_sub N7 mem_su3) ?kp P9 le9 ?kf ?kq ?kz
        case kp => rw [hK]; unfold stepP; dsimp only; rw [if_neg (by rw [hno]; decide)]; exact .some D o6 low T6
        case kf =>
          have f1 := far10.set (o' := W.listOf (its.push (.str (entS so nu sp) tv)) (nw + 1))
          have f2 := (f1.perm perm_su2).set (o' := o6)
          exact (f2.sub (Y := (D, o6) :: (wl, _) :: (fl, W.listOf us1.toArray n1) :: R) (.cons_cons _ (.cons_cons _ (.cons _ (List.Sublist.refl _))))).perm perm_su3
        case kq => rfl
        case kz => intro z h1 h2 h3; simp [h1, h2, h3]
end
section
theorem words_J48 : True := by
  k_with "J48 call ref" => ((with_reducible show wpAny _ _ (call (Value.ref 397) _) _ _ _); refine Hold.in ?_)
  k_with "J48 call builtin:list.append" => refine Hold.in ?_
  k_with "J48 exec For Name Call cons nil" => refine Hold.in ?_
  k_with "J48 subscriptTail" => refine Hold.in ?_
  trivial
local macro_rules | `(tactic| walk_at $s) => fwd "J48 " s
theorem off_KT2 : True := by
  w_top off
  trivial
local macro_rules | `(tactic| walk_at $s) => Lean.Macro.throwUnsupported
theorem kind_T (w mean mg mb) (dp un : Nat) (gd : Option (List Code)) (fr : List Env) (base g h : Heap) (nm : Str) (L fa : Addr) (cd : Value) (m : Str → Option Value) (a : SymA) (st : SymSt) (c : Nat) (sy : List (Addr × Obj)) (fl wl pl : Addr) (us : List Value) (n : Nat) (its : Array Value) (nw : Nat) (pits : Array Value) (np : Nat) (R : List (Addr × Obj)) (tk0 : Tok) (gn : Array GenState) (dr : Drawn) (tk : Nat) (os : OsState) (Q : Flow → Shared → Prop) (E : Value → Shared → Prop)
    (hE : PassesOwn (model PG w) (({ handled := none, depth := dp, frames := some fr, guards := gd, units := un } : Around).deeper (envOf nm lawScope L fa cd)) (envOf nm lawScope L fa cd) E)
    (B : Below { handled := none, depth := dp, frames := some fr, guards := gd, units := un } base fr g)
    (F : Fr g L h (kstB m [(Str.ofString "figures", .ref fl), (Str.ofString "signs", .ref a.s), (Str.ofString "words", .ref wl), (Str.ofString "parts", .ref pl), (Str.ofString "kind", .str (Str.ofString "T") tk0)])) (X : (Mine.hd.heap_1 w.params).In g)
    (N : News g L h (((fl, W.listOf us.toArray n) :: (wl, W.listOf its nw) :: (pl, W.listOf pits np) :: R) ++ symR w a sy)) (T : Top PV LO mean mg mb g)
    (hd : dp + 20 < recursionLimit) (hu : un + 300 < cLine) (hf : FigL us) (hits : its.size ≤ 1000) (hpits : pits.size ≤ 100) (P : SyP w a st c sy) (hc : c + 20 < 10000) (hfar : Far ((fl, W.listOf us.toArray n) :: (wl, W.listOf its nw) :: (pl, W.listOf pits np) :: R) (symR w a sy))
    (ret : ∀ h' tk' m' us' n' its' nw' np' v own gr r0 r st' sy', FigL us' → Fr g L h' m' → News g L h' (((fl, W.listOf us'.toArray n') :: (wl, W.listOf its' nw') :: (pl, W.listOf (pits.push v) np') :: (own ++ R)) ++ symR w a sy') → (∀ ws, StrsAre its.toList ws → StrsAre its'.toList (ws ++ gr)) → Grp 84 84 gr r0 r → PartV w st' r v own → SyP w a st' (c + 20) sy' → st.le st' →
      Far ((fl, W.listOf us'.toArray n') :: (wl, W.listOf its' nw') :: (pl, W.listOf (pits.push v) np') :: (own ++ R)) (symR w a sy') → (∀ z, z ≠ Str.ofString "part" → z ≠ Str.ofString "told" → z ≠ Str.ofString "key" → z ≠ Str.ofString "step" → m' z = kstB m [(Str.ofString "figures", .ref fl), (Str.ofString "signs", .ref a.s), (Str.ofString "words", .ref wl), (Str.ofString "parts", .ref pl), (Str.ofString "kind", .str (Str.ofString "T") tk0)] z) → Q .next ⟨h', gn, dr, tk', os⟩) :
    wpAny (model PG w) (({ handled := none, depth := dp, frames := some fr, guards := gd, units := un } : Around).deeper (envOf nm lawScope L fa cd)) (execs kindBody (envOf nm lawScope L fa cd)) Q E ⟨h, gn, dr, tk, os⟩ := by
  refine' code_letE ?hcb ?hcs hE ?_
  case hcb => dsimp only [kindBody, turnBody, stAt, lawScope, fnAt, PySem.Challenge.pw_rh0084_01, List.getD, List.getElem?_cons_succ, List.getElem?_cons_zero, Option.getD, stBody, fnScope, stParts, List.drop] <;> exact rfl
  case hcs => dsimp only [kindBody, turnBody, stAt, lawScope, fnAt, PySem.Challenge.pw_rh0084_01, List.getD, List.getElem?_cons_succ, List.getElem?_cons_zero, Option.getD, stBody, fnScope, stParts, List.drop] <;> exact rfl
  intro env9 A9 hE9
  have hin : (Builtin.Str.occurrences (Str.ofString "TU") (Str.ofString "T") 0 (Str.ofString "TU").length 1).isEmpty = false := by decide +kernel
  k_steps
  · exact absurd (hin.symm.trans (by assumption)) (by decide)
  unfold Hold
  rename News _ _ _ _ => N0
  rename Obj.IsDictOf (intKind PG w) _ [] => hiD
  rename (_ == sysModules) = false => loD
  rename ∀ p : Addr × Obj, p ∈ _ → p.1 < _ => l1
  rename Fr _ _ _ _ => F0
  refine let_goal ?_
  intro gl_P
  obtain ⟨D0, o0, hD0, ho0, _⟩ : ∃ (x : Addr) (o : Obj), x = _ ∧ o = _ ∧ News _ _ _ ((x, o) :: _) := ⟨_, _, rfl, rfl, N0⟩
  dsimp only [gl_P]
  clear gl_P
  subst hD0
  subst ho0
  have hfar1 : Far ((D0, o0) :: (fl, W.listOf us.toArray n) :: (wl, W.listOf its nw) :: (pl, W.listOf pits np) :: R) (symR w a sy) := hfar.cons fun q hq => Nat.ne_of_lt (l1 q hq)
  clear l1
  refine append_head (v := .str (Str.ofString "{") _) F0 (news_sub N0 mem_k1) (hfar1.perm perm_k1).head (by walk_at "mine om") (fun h8 F8 N8 => ?_)
  clear N0
  obtain ⟨tv, N9⟩ : ∃ tv, News g L h8 ((wl, W.listOf (its.push (.str (Str.ofString "{") tv)) (nw + 1)) :: (D0, o0) :: (fl, W.listOf us.toArray n) :: (pl, W.listOf pits np) :: (R ++ symR w a sy)) := ⟨_, N8⟩
  clear N8
  have N10 := news_sub N9 mem_k2
  clear N9 F0
  have hfar2 : Far ((D0, o0) :: (fl, W.listOf us.toArray n) :: (wl, W.listOf (its.push (.str (Str.ofString "{") tv)) (nw + 1)) :: (pl, W.listOf pits np) :: R) (symR w a sy) := ((hfar1.perm perm_k1).set).perm perm_k1.symm
  (try k_fold)
  (try k_sweep)
  k_steps
  walk_at "mine for"
  unfold Hold
  rename News _ _ _ _ => N11
  rename ∀ p : Addr × Obj, p ∈ _ → p.1 < _ => l1
  refine' useDrawH (by walk_at "mine om") ?k1 ?k2 ?k3 (news_sub N11 mem_k5) ?k5 ?kK ?kd ?ku hf ?koff ?_
  case k1 => k_asm
  case k2 => k_asm
  case k3 => k_asm
  case k5 => k_asm
  case kK => first | exact rfl | assumption
  case kd => ktr_room
  case ku => ktr_units
  case koff => exact List.forall_mem_cons.mpr ⟨Nat.ne_of_gt (l1 (fl, W.listOf us.toArray n) (by first | walk_at "mine mem1" | simp)), (hfar2.perm perm_k5).head⟩
  clear N11
  intro i1 t1 h1 tk1 us1 n1 lo1 hi1 hf1 F1 N1
  have hfar3 : Far ((fl, W.listOf us1.toArray n1) :: (wl, W.listOf (its.push (.str (Str.ofString "{") tv)) (nw + 1)) :: ([(D0, o0)] ++ ((pl, W.listOf pits np) :: R))) (symR w a sy) := (((hfar2.perm perm_k5).set (o' := W.listOf us1.toArray n1)).perm perm_k5.symm).perm perm_k6
  (try k_fold)
  (try k_sweep)
  k_steps
  unfold Hold
  rename News _ _ _ _ => N12
  refine sub_menu N12 (.tail _ (.head _)) lo1 hi1 (fun nn tn hn3 => ?_) (by with_unfolding_all rfl)
  have hn4 : Hold (nn ≤ 3) := hn3
  clear hn3
  k_steps
  unfold Hold
  have hn3 : nn ≤ 3 := hn4
  clear hn4
  rename IsRange _ _ _ _ _ _ _ _ => hrng
  rename Fr _ _ _ _ => lF
  rename News _ _ _ _ => lN
  have lN2 := news_sub lN mem_k6
  refine' range_s (σ := StT) (n := nn) (fun q => ((fl, W.listOf q.us.toArray q.n) :: (wl, W.listOf q.its q.nw) :: (q.po ++ ((pl, W.listOf pits np) :: R))) ++ symR w a q.sy) (fun q => [(Str.ofString "part", q.pv)]) [Str.ofString "told", Str.ofString "key"]
    (fun i q => FigL q.us ∧ PartT w q.st q.pt q.pv q.po ∧ SyP w a q.st (c + 2 * i) q.sy ∧ st.le q.st ∧ (∀ ws, StrsAre its.toList ws → StrsAre q.its.toList (ws ++ (Str.ofString "{" :: q.es))) ∧ q.es.length = i ∧ Ents conS EntTOk entT q.es q.pt ∧ Far ((fl, W.listOf q.us.toArray q.n) :: (wl, W.listOf q.its q.nw) :: (q.po ++ ((pl, W.listOf pits np) :: R))) (symR w a q.sy) ∧ q.its.size = its.size + 1 + i)
    ⟨us1, n1, its.push (.str (Str.ofString "{") tv), nw + 1, some [], .ref D0, [(D0, o0)], st, sy, []⟩ rfl hrng (small10 _ (by walk_at "mine om")) (size10 _ (by walk_at "mine om")) lF lN2 ?hps ?hinv ?turn ?done
  case hps => exact List.forall_mem_cons.mpr ⟨by rfl, fun _ h => nomatch h⟩
  case hinv => exact ⟨hf1, .some D0 o0 loD (tabT_nil hiD), P, st.le_refl, fun ws hw => strsAre_pushS hw, rfl, .nil, hfar3, by simp⟩
  case turn =>
    rintro i ti ⟨us2, n2, its2, nw2, pt2, pv2, po2, st2, sy2, es2⟩ uu h2 tk2 it hi hI0 hA F2 N2
    with_reducible refine and9 hI0 fun v1 v2 v3 v4 v5 v6 v7 v8 v9 => ?_
    clear hI0
    (try dsimp only at *)
    clear lF lN lN2
    obtain ⟨it', hit, hiff⟩ := news_dedup (it := it) (news_sub N2 fun p hp => List.mem_append.mpr (.inr hp))
    have hi3 : i ≤ 3 := Nat.le_trans (Nat.le_of_lt hi) hn3
    have hz2 : its2.size ≤ 16000 := Nat.le_trans (Nat.le_of_eq v9) (Nat.le_trans (Nat.add_le_add (Nat.succ_le_succ ‹its.size ≤ 1000›) hi3) (by decide))
    have hfarI := far_it (v8.more hit (ownOff_iff hA hiff))
    obtain ⟨F3, e3⟩ := Fr.pickE (ps := [(Str.ofString "figures", .ref fl), (Str.ofString "signs", .ref a.s), (Str.ofString "words", .ref wl), (Str.ofString "kind", .str (Str.ofString "T") tk0), (Str.ofString "part", pv2), (Str.ofString "step", .int (0 + (i : Int) * 1) ti)]) F2 (List.forall_mem_cons.mpr ⟨by rfl, List.forall_mem_cons.mpr ⟨by rfl, List.forall_mem_cons.mpr ⟨by rfl, List.forall_mem_cons.mpr ⟨by rfl, List.forall_mem_cons.mpr ⟨by rfl, List.forall_mem_cons.mpr ⟨by rfl, fun _ h => nomatch h⟩⟩⟩⟩⟩⟩)
    refine' step_T w mean mg mb dp un gd fr base g h2 nm L fa cd _ a st2 (c + 2 * i) sy2 fl wl us2 n2 its2 nw2 pt2 pv2 po2 ((pl, W.listOf pits np) :: (R ++ it')) (0 + (i : Int) * 1) tk0 ti gn dr tk2 os _ _ B F3 X (news_sub N2 (mem_it' hiff)) T hd hu v1 hz2 v2 v3 (om_muc ‹c + 20 < 10000› hi hn3 rfl) (step_in (Nat.lt_of_lt_of_le hi hn3)) ?kl hfarI ?kr
    case kl =>
      intro l hl
      obtain ⟨e, _⟩ := v7.text l hl
      have : l.length = es2.length := by rw [← e]; simp
      exact Nat.le_trans (Nat.le_of_eq (this.trans v6)) (Nat.le_trans hi3 (by decide))
    case kr =>
      intro h' tk' m' us' n' nw' pv' po' st' sy' so nu t1 hso hnu hf' F' N' hp' P' le' far' hm hz
      refine TurnS.next (⟨us', n', its2.push (.str (entS so nu (0 + (i : Int) * 1)) t1), nw', stepP (keyC (wordS so nu) so nu) (0 + (i : Int) * 1) pt2, pv', po', st', sy', es2 ++ [entS so nu (0 + (i : Int) * 1)]⟩ : StT) F' N' (mem_it hiff) ?_ ?_ (List.forall_mem_cons.mpr ⟨hm, fun _ h => nomatch h⟩) ?_
      · exact ownOff_iff (Far.own (far_it' far')) fun p => (hiff p).symm
      · exact ⟨hf', hp', P'.more (Nat.le_of_eq om_mus), SymSt.le_trans v4 le', fun ws hw => strs_end (v5 ws hw), by simp [v6], entT_snoc hso hnu (step_in (Nat.lt_of_lt_of_le hi hn3)) v7, (far_it' far').left, (Array.size_push _).trans (congrArg Nat.succ v9)⟩
      · intro z h1 h2 h3
        rw [hz z (ne_cont h3 (by walk_at "mine mem1")) (ne_cont h3 (by walk_at "mine mem1")) (h2 _ (.head _)), e3]
        first
          | ((repeat (refine Eq.trans (if_neg (by first | exact h1 | exact ne_cont h3 (by walk_at "mine mem1") | exact h2 _ (.head _) | exact h2 _ (.tail _ (.head _)) | exact h2 _ (.tail _ (.tail _ (.head _))) | exact Bool.eq_false_iff.mp h3)) ?_)); exact rfl)
          | (simp only [List.contains_cons, List.contains_nil, Bool.or_false, Bool.or_eq_false_iff, beq_eq_false_iff_ne, ne_eq] at h3; simp only [List.forall_mem_cons, List.not_mem_nil, false_implies, implies_true, and_true, ne_eq] at h2; simp [h1, h2, h3, kstB])
  case done =>
    rintro ⟨us2, n2, its2, nw2, pt2, pv2, po2, st2, sy2, es2⟩ uu h2 tk2 hI0 F2 N2
    with_reducible refine and9 hI0 fun v1 v2 v3 v4 v5 v6 v7 v8 v9 => ?_
    clear hI0
    (try dsimp only at *)
    clear lF lN lN2
    k_steps
    unfold Hold
    rename News _ _ _ _ => N3
    have hz3 : its2.size ≤ 16384 := Nat.le_trans (Nat.le_of_eq v9) (Nat.le_trans (Nat.add_le_add (Nat.succ_le_succ ‹its.size ≤ 1000›) hn3) (by decide))
    refine append_head (v := .str (Str.ofString "}") _) (by assumption) (news_sub N3 mem_swap) (v8.perm (.swap _ _ _)).head hz3 (fun h7 F7 N7 => ?_)
    clear N3
    obtain ⟨tw, N4⟩ : ∃ tw, News g L h7 ((wl, W.listOf (its2.push (.str (Str.ofString "}") tw)) (nw2 + 1)) :: (fl, W.listOf us2.toArray n2) :: ((po2 ++ ((pl, W.listOf pits np) :: R)) ++ symR w a sy2)) := ⟨_, N7⟩
    clear N7
    replace N4 := news_sub N4 mem_d1
    have far4 : Far ((wl, W.listOf (its2.push (.str (Str.ofString "}") tw)) (nw2 + 1)) :: (fl, W.listOf us2.toArray n2) :: (po2 ++ ((pl, W.listOf pits np) :: R))) (symR w a sy2) := (v8.perm (.swap _ _ _)).set
    (try k_fold)
    (try k_sweep)
    k_steps
    unfold Hold
    rename News _ _ _ _ => N5
    refine append_head (v := pv2) (by assumption) N5 (far4.perm perm_d1).head (by walk_at "mine om") (fun h6 F6 N6 => ?_)
    clear N5
    (try k_fold)
    (try k_sweep)
    k_steps
    rename Fr _ _ _ _ => F9
    rename News _ _ _ _ => N9
    refine' ret _ _ _ us2 n2 _ _ _ pv2 po2 (Str.ofString "{" :: es2 ++ [Str.ofString "}"]) _ _ st2 sy2 v1 F9 (news_sub N9 mem_d2) (fun ws hw => strs_end (v5 ws hw)) (grpT v7 (Nat.le_trans (Nat.le_of_eq v6) hn3)) v2.pv (v3.more (om_mue hn3 rfl)) v4 ?kf ?kz
    case kf => exact ((far4.perm perm_d1).set (o' := W.listOf (pits.push pv2) (np + 1))).perm perm_d2
    case kz => intro z h1 h2 h3 h4; simp [h1, h2, h3, h4, kstB]
theorem off_KT3 : True := by
  w_top off
  trivial
theorem kind_U (w mean mg mb) (dp un : Nat) (gd : Option (List Code)) (fr : List Env) (base g h : Heap) (nm : Str) (L fa : Addr) (cd : Value) (m : Str → Option Value) (a : SymA) (st : SymSt) (c : Nat) (sy : List (Addr × Obj)) (fl wl pl : Addr) (us : List Value) (n : Nat) (its : Array Value) (nw : Nat) (pits : Array Value) (np : Nat) (R : List (Addr × Obj)) (tk0 : Tok) (gn : Array GenState) (dr : Drawn) (tk : Nat) (os : OsState) (Q : Flow → Shared → Prop) (E : Value → Shared → Prop)
    (hE : PassesOwn (model PG w) (({ handled := none, depth := dp, frames := some fr, guards := gd, units := un } : Around).deeper (envOf nm lawScope L fa cd)) (envOf nm lawScope L fa cd) E)
    (B : Below { handled := none, depth := dp, frames := some fr, guards := gd, units := un } base fr g)
    (F : Fr g L h (kstB m [(Str.ofString "figures", .ref fl), (Str.ofString "signs", .ref a.s), (Str.ofString "words", .ref wl), (Str.ofString "parts", .ref pl), (Str.ofString "kind", .str (Str.ofString "U") tk0)])) (X : (Mine.hd.heap_1 w.params).In g)
    (N : News g L h (((fl, W.listOf us.toArray n) :: (wl, W.listOf its nw) :: (pl, W.listOf pits np) :: R) ++ symR w a sy)) (T : Top PV LO mean mg mb g)
    (hd : dp + 20 < recursionLimit) (hu : un + 300 < cLine) (hf : FigL us) (hits : its.size ≤ 1000) (hpits : pits.size ≤ 100) (P : SyP w a st c sy) (hc : c + 20 < 10000) (hfar : Far ((fl, W.listOf us.toArray n) :: (wl, W.listOf its nw) :: (pl, W.listOf pits np) :: R) (symR w a sy))
    (ret : ∀ h' tk' m' us' n' its' nw' np' v own gr r0 r st' sy', FigL us' → Fr g L h' m' → News g L h' (((fl, W.listOf us'.toArray n') :: (wl, W.listOf its' nw') :: (pl, W.listOf (pits.push v) np') :: (own ++ R)) ++ symR w a sy') → (∀ ws, StrsAre its.toList ws → StrsAre its'.toList (ws ++ gr)) → Grp 85 85 gr r0 r → PartV w st' r v own → SyP w a st' (c + 20) sy' → st.le st' →
      Far ((fl, W.listOf us'.toArray n') :: (wl, W.listOf its' nw') :: (pl, W.listOf (pits.push v) np') :: (own ++ R)) (symR w a sy') → (∀ z, z ≠ Str.ofString "part" → z ≠ Str.ofString "told" → z ≠ Str.ofString "key" → z ≠ Str.ofString "step" → m' z = kstB m [(Str.ofString "figures", .ref fl), (Str.ofString "signs", .ref a.s), (Str.ofString "words", .ref wl), (Str.ofString "parts", .ref pl), (Str.ofString "kind", .str (Str.ofString "U") tk0)] z) → Q .next ⟨h', gn, dr, tk', os⟩) :
    wpAny (model PG w) (({ handled := none, depth := dp, frames := some fr, guards := gd, units := un } : Around).deeper (envOf nm lawScope L fa cd)) (execs kindBody (envOf nm lawScope L fa cd)) Q E ⟨h, gn, dr, tk, os⟩ := by
  refine' code_letE ?hcb ?hcs hE ?_
  case hcb => dsimp only [kindBody, turnBody, stAt, lawScope, fnAt, PySem.Challenge.pw_rh0084_01, List.getD, List.getElem?_cons_succ, List.getElem?_cons_zero, Option.getD, stBody, fnScope, stParts, List.drop] <;> exact rfl
  case hcs => dsimp only [kindBody, turnBody, stAt, lawScope, fnAt, PySem.Challenge.pw_rh0084_01, List.getD, List.getElem?_cons_succ, List.getElem?_cons_zero, Option.getD, stBody, fnScope, stParts, List.drop] <;> exact rfl
  intro env9 A9 hE9
  have hin : (Builtin.Str.occurrences (Str.ofString "TU") (Str.ofString "U") 0 (Str.ofString "TU").length 1).isEmpty = false := by decide +kernel
  k_steps
  · exact absurd (hin.symm.trans (by assumption)) (by decide)
  unfold Hold
  rename News _ _ _ _ => N0
  rename Obj.IsDictOf (intKind PG w) _ [] => hiD
  rename (_ == sysModules) = false => loD
  rename ∀ p : Addr × Obj, p ∈ _ → p.1 < _ => l1
  rename Fr _ _ _ _ => F0
  refine let_goal ?_
  intro gl_P
  obtain ⟨D0, o0, hD0, ho0, _⟩ : ∃ (x : Addr) (o : Obj), x = _ ∧ o = _ ∧ News _ _ _ ((x, o) :: _) := ⟨_, _, rfl, rfl, N0⟩
  dsimp only [gl_P]
  clear gl_P
  subst hD0
  subst ho0
  have hfar1 : Far ((D0, o0) :: (fl, W.listOf us.toArray n) :: (wl, W.listOf its nw) :: (pl, W.listOf pits np) :: R) (symR w a sy) := hfar.cons fun q hq => Nat.ne_of_lt (l1 q hq)
  clear l1
  refine append_head (v := .str (Str.ofString "{") _) F0 (news_sub N0 mem_k1) (hfar1.perm perm_k1).head (by walk_at "mine om") (fun h8 F8 N8 => ?_)
  clear N0
  obtain ⟨tv, N9⟩ : ∃ tv, News g L h8 ((wl, W.listOf (its.push (.str (Str.ofString "{") tv)) (nw + 1)) :: (D0, o0) :: (fl, W.listOf us.toArray n) :: (pl, W.listOf pits np) :: (R ++ symR w a sy)) := ⟨_, N8⟩
  clear N8
  have N10 := news_sub N9 mem_k2
  clear N9 F0
  have hfar2 : Far ((D0, o0) :: (fl, W.listOf us.toArray n) :: (wl, W.listOf (its.push (.str (Str.ofString "{") tv)) (nw + 1)) :: (pl, W.listOf pits np) :: R) (symR w a sy) := ((hfar1.perm perm_k1).set).perm perm_k1.symm
  (try k_fold)
  (try k_sweep)
  k_steps
  walk_at "mine for"
  unfold Hold
  rename News _ _ _ _ => N11
  rename ∀ p : Addr × Obj, p ∈ _ → p.1 < _ => l1
  refine' useDrawH (by walk_at "mine om") ?k1 ?k2 ?k3 (news_sub N11 mem_k5) ?k5 ?kK ?kd ?ku hf ?koff ?_
  case k1 => k_asm
  case k2 => k_asm
  case k3 => k_asm
  case k5 => k_asm
  case kK => first | exact rfl | assumption
  case kd => ktr_room
  case ku => ktr_units
  case koff => exact List.forall_mem_cons.mpr ⟨Nat.ne_of_gt (l1 (fl, W.listOf us.toArray n) (by first | walk_at "mine mem1" | simp)), (hfar2.perm perm_k5).head⟩
  clear N11
  intro i1 t1 h1 tk1 us1 n1 lo1 hi1 hf1 F1 N1
  have hfar3 : Far ((fl, W.listOf us1.toArray n1) :: (wl, W.listOf (its.push (.str (Str.ofString "{") tv)) (nw + 1)) :: ([(D0, o0)] ++ ((pl, W.listOf pits np) :: R))) (symR w a sy) := (((hfar2.perm perm_k5).set (o' := W.listOf us1.toArray n1)).perm perm_k5.symm).perm perm_k6
  (try k_fold)
  (try k_sweep)
  k_steps
  unfold Hold
  rename News _ _ _ _ => N12
  refine sub_menu N12 (.tail _ (.head _)) lo1 hi1 (fun nn tn hn3 => ?_) (by with_unfolding_all rfl)
  have hn4 : Hold (nn ≤ 3) := hn3
  clear hn3
  k_steps
  unfold Hold
  have hn3 : nn ≤ 3 := hn4
  clear hn4
  rename IsRange _ _ _ _ _ _ _ _ => hrng
  rename Fr _ _ _ _ => lF
  rename News _ _ _ _ => lN
  have lN2 := news_sub lN mem_k6
  refine' range_s (σ := StU) (n := nn) (fun q => ((fl, W.listOf q.us.toArray q.n) :: (wl, W.listOf q.its q.nw) :: (q.po ++ ((pl, W.listOf pits np) :: R))) ++ symR w a q.sy) (fun q => [(Str.ofString "part", q.pv)]) [Str.ofString "told", Str.ofString "key"]
    (fun i q => FigL q.us ∧ PartU w q.st q.pt q.pv q.po ∧ SyP w a q.st (c + 2 * i) q.sy ∧ st.le q.st ∧ (∀ ws, StrsAre its.toList ws → StrsAre q.its.toList (ws ++ (Str.ofString "{" :: q.es))) ∧ q.es.length = i ∧ Ents funS EntUOk entU q.es q.pt ∧ Far ((fl, W.listOf q.us.toArray q.n) :: (wl, W.listOf q.its q.nw) :: (q.po ++ ((pl, W.listOf pits np) :: R))) (symR w a q.sy) ∧ q.its.size = its.size + 1 + i)
    ⟨us1, n1, its.push (.str (Str.ofString "{") tv), nw + 1, some [], .ref D0, [(D0, o0)], st, sy, []⟩ rfl hrng (small10 _ (by walk_at "mine om")) (size10 _ (by walk_at "mine om")) lF lN2 ?hps ?hinv ?turn ?done
  case hps => exact List.forall_mem_cons.mpr ⟨by rfl, fun _ h => nomatch h⟩
  case hinv => exact ⟨hf1, .some D0 o0 loD (tabU_nil hiD), P, st.le_refl, fun ws hw => strsAre_pushS hw, rfl, .nil, hfar3, by simp⟩
  case turn =>
    rintro i ti ⟨us2, n2, its2, nw2, pt2, pv2, po2, st2, sy2, es2⟩ uu h2 tk2 it hi hI0 hA F2 N2
    with_reducible refine and9 hI0 fun v1 v2 v3 v4 v5 v6 v7 v8 v9 => ?_
    clear hI0
    (try dsimp only at *)
    clear lF lN lN2
    obtain ⟨it', hit, hiff⟩ := news_dedup (it := it) (news_sub N2 fun p hp => List.mem_append.mpr (.inr hp))
    have hi3 : i ≤ 3 := Nat.le_trans (Nat.le_of_lt hi) hn3
    have hz2 : its2.size ≤ 16000 := Nat.le_trans (Nat.le_of_eq v9) (Nat.le_trans (Nat.add_le_add (Nat.succ_le_succ ‹its.size ≤ 1000›) hi3) (by decide))
    have hfarI := far_it (v8.more hit (ownOff_iff hA hiff))
    obtain ⟨F3, e3⟩ := Fr.pickE (ps := [(Str.ofString "figures", .ref fl), (Str.ofString "signs", .ref a.s), (Str.ofString "words", .ref wl), (Str.ofString "kind", .str (Str.ofString "U") tk0), (Str.ofString "part", pv2), (Str.ofString "step", .int (0 + (i : Int) * 1) ti)]) F2 (List.forall_mem_cons.mpr ⟨by rfl, List.forall_mem_cons.mpr ⟨by rfl, List.forall_mem_cons.mpr ⟨by rfl, List.forall_mem_cons.mpr ⟨by rfl, List.forall_mem_cons.mpr ⟨by rfl, List.forall_mem_cons.mpr ⟨by rfl, fun _ h => nomatch h⟩⟩⟩⟩⟩⟩)
    refine' step_U w mean mg mb dp un gd fr base g h2 nm L fa cd _ a st2 (c + 2 * i) sy2 fl wl us2 n2 its2 nw2 pt2 pv2 po2 ((pl, W.listOf pits np) :: (R ++ it')) (0 + (i : Int) * 1) tk0 ti gn dr tk2 os _ _ B F3 X (news_sub N2 (mem_it' hiff)) T hd hu v1 hz2 v2 v3 (om_muc ‹c + 20 < 10000› hi hn3 rfl) (step_in (Nat.lt_of_lt_of_le hi hn3)) ?kl hfarI ?kr
    case kl =>
      intro l hl
      obtain ⟨e, _⟩ := v7.text l hl
      have : l.length = es2.length := by rw [← e]; simp
      exact Nat.le_trans (Nat.le_of_eq (this.trans v6)) (Nat.le_trans hi3 (by decide))
    case kr =>
      intro h' tk' m' us' n' nw' pv' po' st' sy' so nu t1 hso hnu hf' F' N' hp' P' le' far' hm hz
      refine TurnS.next (⟨us', n', its2.push (.str (entS so nu (0 + (i : Int) * 1)) t1), nw', stepP (keyF so nu) (0 + (i : Int) * 1) pt2, pv', po', st', sy', es2 ++ [entS so nu (0 + (i : Int) * 1)]⟩ : StU) F' N' (mem_it hiff) ?_ ?_ (List.forall_mem_cons.mpr ⟨hm, fun _ h => nomatch h⟩) ?_
      · exact ownOff_iff (Far.own (far_it' far')) fun p => (hiff p).symm
      · exact ⟨hf', hp', P'.more (Nat.le_of_eq om_mus), SymSt.le_trans v4 le', fun ws hw => strs_end (v5 ws hw), by simp [v6], entU_snoc hso hnu (step_in (Nat.lt_of_lt_of_le hi hn3)) v7, (far_it' far').left, (Array.size_push _).trans (congrArg Nat.succ v9)⟩
      · intro z h1 h2 h3
        rw [hz z (ne_cont h3 (by walk_at "mine mem1")) (ne_cont h3 (by walk_at "mine mem1")) (h2 _ (.head _)), e3]
        first
          | ((repeat (refine Eq.trans (if_neg (by first | exact h1 | exact ne_cont h3 (by walk_at "mine mem1") | exact h2 _ (.head _) | exact h2 _ (.tail _ (.head _)) | exact h2 _ (.tail _ (.tail _ (.head _))) | exact Bool.eq_false_iff.mp h3)) ?_)); exact rfl)
          | (simp only [List.contains_cons, List.contains_nil, Bool.or_false, Bool.or_eq_false_iff, beq_eq_false_iff_ne, ne_eq] at h3; simp only [List.forall_mem_cons, List.not_mem_nil, false_implies, implies_true, and_true, ne_eq] at h2; simp [h1, h2, h3, kstB])
  case done =>
    rintro ⟨us2, n2, its2, nw2, pt2, pv2, po2, st2, sy2, es2⟩ uu h2 tk2 hI0 F2 N2
    with_reducible refine and9 hI0 fun v1 v2 v3 v4 v5 v6 v7 v8 v9 => ?_
    clear hI0
    (try dsimp only at *)
    clear lF lN lN2
    k_steps
    unfold Hold
    rename News _ _ _ _ => N3
    have hz3 : its2.size ≤ 16384 := Nat.le_trans (Nat.le_of_eq v9) (Nat.le_trans (Nat.add_le_add (Nat.succ_le_succ ‹its.size ≤ 1000›) hn3) (by decide))
    refine append_head (v := .str (Str.ofString "}") _) (by assumption) (news_sub N3 mem_swap) (v8.perm (.swap _ _ _)).head hz3 (fun h7 F7 N7 => ?_)
    clear N3
    obtain ⟨tw, N4⟩ : ∃ tw, News g L h7 ((wl, W.listOf (its2.push (.str (Str.ofString "}") tw)) (nw2 + 1)) :: (fl, W.listOf us2.toArray n2) :: ((po2 ++ ((pl, W.listOf pits np) :: R)) ++ symR w a sy2)) := ⟨_, N7⟩
    clear N7
    replace N4 := news_sub N4 mem_d1
    have far4 : Far ((wl, W.listOf (its2.push (.str (Str.ofString "}") tw)) (nw2 + 1)) :: (fl, W.listOf us2.toArray n2) :: (po2 ++ ((pl, W.listOf pits np) :: R))) (symR w a sy2) := (v8.perm (.swap _ _ _)).set
    (try k_fold)
    (try k_sweep)
    k_steps
    unfold Hold
    rename News _ _ _ _ => N5
    refine append_head (v := pv2) (by assumption) N5 (far4.perm perm_d1).head (by walk_at "mine om") (fun h6 F6 N6 => ?_)
    clear N5
    (try k_fold)
    (try k_sweep)
    k_steps
    rename Fr _ _ _ _ => F9
    rename News _ _ _ _ => N9
    refine' ret _ _ _ us2 n2 _ _ _ pv2 po2 (Str.ofString "{" :: es2 ++ [Str.ofString "}"]) _ _ st2 sy2 v1 F9 (news_sub N9 mem_d2) (fun ws hw => strs_end (v5 ws hw)) (grpU v7 (Nat.le_trans (Nat.le_of_eq v6) hn3)) v2.pv (v3.more (om_mue hn3 rfl)) v4 ?kf ?kz
    case kf => exact ((far4.perm perm_d1).set (o' := W.listOf (pits.push pv2) (np + 1))).perm perm_d2
    case kz => intro z h1 h2 h3 h4; simp [h1, h2, h3, h4, kstB]
theorem off_KT4 : True := by
  w_top off
  trivial
theorem kind_sub : ∀ k ∈ lawKinds, k ≠ 84 → k ≠ 85 → k ∈ ([82, 88, 89, 67, 70, 78] : List Nat) := by decide
theorem cmp_84 : ∀ k', Cmp 84 k' → k' = 84 := fun _ h => h.elim id fun x => absurd x.1 (by decide)
theorem cmp_85 : ∀ k', Cmp 85 k' → k' = 85 := fun _ h => h.elim id fun x => absurd x.1 (by decide)
theorem kind_turn (w mean mg mb) (dp un : Nat) (gd : Option (List Code)) (fr : List Env) (base g h : Heap) (nm : Str) (L fa : Addr) (cd : Value) (m : Str → Option Value) (a : SymA) (st : SymSt) (c : Nat) (sy : List (Addr × Obj)) (fl wl pl : Addr) (us : List Value) (n : Nat) (its : Array Value) (nw : Nat) (pits : Array Value) (np : Nat) (R : List (Addr × Obj)) (k k' : Nat) (tk0 : Tok) (gn : Array GenState) (dr : Drawn) (tk : Nat) (os : OsState) (Q : Flow → Shared → Prop) (E : Value → Shared → Prop)
    (hk : k ∈ lawKinds) (hkk : Cmp k k')
    (hE : PassesOwn (model PG w) (({ handled := none, depth := dp, frames := some fr, guards := gd, units := un } : Around).deeper (envOf nm lawScope L fa cd)) (envOf nm lawScope L fa cd) E)
    (B : Below { handled := none, depth := dp, frames := some fr, guards := gd, units := un } base fr g)
    (F : Fr g L h (kstB m [(Str.ofString "figures", .ref fl), (Str.ofString "signs", .ref a.s), (Str.ofString "words", .ref wl), (Str.ofString "parts", .ref pl), (Str.ofString "kind", .str ⟨#[k]⟩ tk0)])) (X : (Mine.hd.heap_1 w.params).In g)
    (N : News g L h (((fl, W.listOf us.toArray n) :: (wl, W.listOf its nw) :: (pl, W.listOf pits np) :: R) ++ symR w a sy)) (T : Top PV LO mean mg mb g)
    (hd : dp + 20 < recursionLimit) (hu : un + 300 < cLine) (hf : FigL us) (hits : its.size ≤ 1000) (hpits : pits.size ≤ 100) (P : SyP w a st c sy) (hc : c + 20 < 10000) (hfar : Far ((fl, W.listOf us.toArray n) :: (wl, W.listOf its nw) :: (pl, W.listOf pits np) :: R) (symR w a sy))
    (ret : ∀ h' tk' m' us' n' its' nw' np' v own gr r0 r st' sy', FigL us' → Fr g L h' m' → News g L h' (((fl, W.listOf us'.toArray n') :: (wl, W.listOf its' nw') :: (pl, W.listOf (pits.push v) np') :: (own ++ R)) ++ symR w a sy') → (∀ ws, StrsAre its.toList ws → StrsAre its'.toList (ws ++ gr)) → Grp k k' gr r0 r → PartV w st' r v own → SyP w a st' (c + 20) sy' → st.le st' →
      Far ((fl, W.listOf us'.toArray n') :: (wl, W.listOf its' nw') :: (pl, W.listOf (pits.push v) np') :: (own ++ R)) (symR w a sy') → (∀ z, z ≠ Str.ofString "part" → z ≠ Str.ofString "told" → z ≠ Str.ofString "key" → z ≠ Str.ofString "step" → m' z = kstB m [(Str.ofString "figures", .ref fl), (Str.ofString "signs", .ref a.s), (Str.ofString "words", .ref wl), (Str.ofString "parts", .ref pl), (Str.ofString "kind", .str ⟨#[k]⟩ tk0)] z) → Q .next ⟨h', gn, dr, tk', os⟩) :
    wpAny (model PG w) (({ handled := none, depth := dp, frames := some fr, guards := gd, units := un } : Around).deeper (envOf nm lawScope L fa cd)) (execs kindBody (envOf nm lawScope L fa cd)) Q E ⟨h, gn, dr, tk, os⟩ := by
  have hkk2 : k' = k ∨ (k = 78 ∧ k' = 76) := hkk
  by_cases h84 : k = 84
  · subst h84
    obtain rfl := cmp_84 k' hkk
    exact kind_T w mean mg mb dp un gd fr base g h nm L fa cd m a st c sy fl wl pl us n its nw pits np R tk0 gn dr tk os Q E hE B F X N T hd hu hf hits hpits P hc hfar ret
  · by_cases h85 : k = 85
    · subst h85
      obtain rfl := cmp_85 k' hkk
      exact kind_U w mean mg mb dp un gd fr base g h nm L fa cd m a st c sy fl wl pl us n its nw pits np R tk0 gn dr tk os Q E hE B F X N T hd hu hf hits hpits P hc hfar ret
    · exact kind_S w mean mg mb dp un gd fr base g h nm L fa cd m a st c sy fl wl pl us n its nw pits np R k k' tk0 gn dr tk os Q E (kind_sub k hk h84 h85) hkk B F X N T hd hu hf hits hpits P hc hfar ret
structure KiS where
  us : List Value
  n : Nat
  its : Array Value
  nw : Nat
  vals : List Value
  np : Nat
  own : List (Addr × Obj)
  st : SymSt
  sy : List (Addr × Obj)
  ws : List Str
  r0s : List (Option Opd)
  rs : List (Option Opd)
section
variable {x y z : Addr × Obj} {own own' R S it it' : List (Addr × Obj)}
theorem mem_t1 (hi : ∀ p, p ∈ it ↔ p ∈ it') : ∀ q ∈ (x :: y :: z :: (own ++ (R ++ it'))) ++ S, q ∈ ((x :: y :: z :: (own ++ R)) ++ S) ++ it := by
  have s1 : Sub it' it := fun p h => (hi p).mpr h
  exact Sub.out (by walk_at "mine sub")
theorem mem_t2 (hi : ∀ p, p ∈ it ↔ p ∈ it') : ∀ q ∈ ((x :: y :: z :: ((own' ++ own) ++ R)) ++ S) ++ it, q ∈ (x :: y :: z :: (own' ++ (own ++ (R ++ it')))) ++ S := by
  have s1 : Sub it it' := fun p h => (hi p).mp h
  exact Sub.out (by walk_at "mine sub")
theorem far_t1 (h : Far ((x :: y :: z :: (own ++ R)) ++ it) S) : Far (x :: y :: z :: (own ++ (R ++ it))) S := by
  have e : (x :: y :: z :: (own ++ R)) ++ it = x :: y :: z :: (own ++ (R ++ it)) := by simp
  rw [← e]; exact h
theorem far_t2 (h : Far (x :: y :: z :: (own' ++ (own ++ (R ++ it)))) S) : Far ((x :: y :: z :: ((own' ++ own) ++ R)) ++ it) S := by
  have e : (x :: y :: z :: ((own' ++ own) ++ R)) ++ it = x :: y :: z :: (own' ++ (own ++ (R ++ it))) := by simp
  rw [e]; exact h
end
theorem mem_row {x r : Addr × Obj} {R S : List (Addr × Obj)} (hr : r ∈ R) : ∀ q ∈ r :: x :: (R ++ S), q ∈ (x :: R) ++ S := fun q hq => by
  simp only [List.mem_cons, List.mem_append, List.cons_append] at hq ⊢
  rcases hq with h | h | h | h <;> simp [h, hr]
end
section
theorem words_J49 : True := by
  k_with "J49 call ref" => ((with_reducible show wpAny _ _ (call (Value.ref 425) _) _ _ _); refine Hold.in ?_)
  k_with "J49 call ref" => ((with_reducible show wpAny _ _ (call (Value.ref 334) _) _ _ _); refine Hold.in ?_)
  k_with "J49 compareOp NotEq ref ref" => refine Hold.in ?_
  trivial
local macro_rules | `(tactic| walk_at $s) => fwd "J49 " s
theorem off_KP1 : True := by
  w_top off
  trivial
theorem kept_tail (w mean mg mb) (dp un : Nat) (gd : Option (List Code)) (base g h : Heap) (nm0 : Str) (L fa : Addr) (cd : Value) (m : Str → Option Value) (a : SymA) (st : SymSt) (c : Nat) (sy : List (Addr × Obj)) (wl tb : Addr) (ob : Obj) (its : Array Value) (nw : Nat) (R : List (Addr × Obj)) (nm ks ks' : Str) (wf : List Str) (du : Option (List Opd)) (dv : Value) (u : Tok) (gn : Array GenState) (dr : Drawn) (tk : Nat) (os : OsState) (Q : Flow → Shared → Prop) (E : Value → Shared → Prop)
    (hE : PassesOwn (model PG w) (({ handled := none, depth := dp, frames := some [], guards := gd, units := un } : Around).deeper (envOf nm0 lawScope L fa cd)) (envOf nm0 lawScope L fa cd) E)
    (B : Below { handled := none, depth := dp, frames := some [], guards := gd, units := un } base [] g) (XB : (Mine.hd.heap_1 w.params).In base) (TB : Top PV LO mean mg mb base)
    (F : Fr g L h (kstB m [(Str.ofString "signs", .ref a.s), (Str.ofString "words", .ref wl), (Str.ofString "forms", .ref tb), (Str.ofString "due", dv), (Str.ofString "kinds", .str ks u)])) (X : (Mine.hd.heap_1 w.params).In g)
    (N : News g L h (((wl, W.listOf its nw) :: R) ++ symR w a sy)) (T : Top PV LO mean mg mb g)
    (hd : dp + 40 < recursionLimit) (hu : un + 700 < cLine) (hits : StrsAre its.toList wf) (hwz : wf.length ≤ 30) (P : SyP w a st c sy) (hc : c + 700 < 10000) (hfar : Far ((wl, W.listOf its nw) :: R) (symR w a sy))
    (hob : (tb, ob) ∈ R) (hfo : FormsO w tb ob) (hnm : nm.length ≤ 30) (hks : ks.length ≤ 10) (hkk : ∀ x ∈ ks.cps.toList, x ≠ 76) (hks' : ks'.length ≤ 10) (hkk' : ∀ x ∈ ks'.cps.toList, x ∈ kindL)
    (hw0 : ∃ ws, wf = nm :: ws ∧ ∀ x ∈ ws, WordOk x ∧ EntryOk x)
    (hj : nm = Str.ofString "jump" → (PySem.Spec.lookup (.str nm) (datS shapesL)).isSome = false ∧ du = none) (hnj : nm ≠ Str.ofString "jump" → PySem.Spec.lookup (.str nm) (datS shapesL) = some (.str ks') ∧ insS ks'.cps.toList wf = du)
    (hdu : DueV w st nm ks wf R du dv)
    (ret : ∀ h' tk' m' st' sy', Fr g L h' m' → News g L h' (((wl, W.listOf its nw) :: R) ++ symR w a sy') → SyP w a st' (c + 700) sy' → st.le st' → Far ((wl, W.listOf its nw) :: R) (symR w a sy') →
      (∀ z, z ≠ Str.ofString "kept" → m' z = kstB m [(Str.ofString "signs", .ref a.s), (Str.ofString "words", .ref wl), (Str.ofString "forms", .ref tb), (Str.ofString "due", dv), (Str.ofString "kinds", .str ks u)] z) → Q .next ⟨h', gn, dr, tk', os⟩) :
    wpAny (model PG w) (({ handled := none, depth := dp, frames := some [], guards := gd, units := un } : Around).deeper (envOf nm0 lawScope L fa cd)) (execs keptTail (envOf nm0 lawScope L fa cd)) Q E ⟨h, gn, dr, tk, os⟩ := by
  refine' code_letE ?hcb ?hcs hE ?_
  case hcb => dsimp only [keptTail, turnBody, stAt, lawScope, fnAt, PySem.Challenge.pw_rh0084_01, List.getD, List.getElem?_cons_succ, List.getElem?_cons_zero, Option.getD, stBody, fnScope, stParts, List.drop] <;> exact rfl
  case hcs => dsimp only [keptTail, turnBody, stAt, lawScope, fnAt, PySem.Challenge.pw_rh0084_01, List.getD, List.getElem?_cons_succ, List.getElem?_cons_zero, Option.getD, stBody, fnScope, stParts, List.drop] <;> exact rfl
  intro env9 A9 hE9
  have hsz : its.size = wf.length := strsAre_size hits
  obtain ⟨ws0, hw1, hw2⟩ := hw0
  k_steps
  unfold Hold
  rename News _ _ _ _ => N1
  rename ∀ p : Addr × Obj, p ∈ _ → p.1 < _ => l1
  refine let_goal ?_
  intro gl_P
  obtain ⟨KL, kc, hKL, N2⟩ : ∃ (x : Addr) (kc : Nat), x = _ ∧ News g L _ ((x, W.listOf its kc) :: (((wl, W.listOf its nw) :: R) ++ symR w a sy)) := ⟨_, _, rfl, N1⟩
  dsimp only [gl_P]
  clear gl_P
  subst hKL
  have hfar1 : Far ((KL, W.listOf its kc) :: (wl, W.listOf its nw) :: R) (symR w a sy) := hfar.cons fun q hq => Nat.ne_of_lt (l1 q hq)
  clear N1 l1
  refine' useRead (R := (KL, W.listOf its kc) :: (wl, W.listOf its nw) :: R) (ob := ob) (nw := nw) (its := its) (nm := nm) (ks' := ks') (wf := wf) (ws := ws0) (du := du) B ?k2 X XB N2 T TB ?kK ?kd ?ku P (by walk_at "mine om") hfar1.2 (.tail _ (.head _)) (.tail _ (.tail _ hob)) hfo hits hw1 hw2 hwz hnm hks' hkk' hj hnj ?_
  case k2 => k_asm
  case kK => first | exact rfl | assumption
  case kd => ktr_room
  case ku => ktr_units
  clear N2
  intro v h9 tk9 own9 st9 sy9 F9 N9 P9 o1 o2 hv
  (try k_fold)
  (try k_sweep)
  rcases hv with ⟨e1, e2, e3, le⟩ | hv
  · subst e1 e2 e3
    cases hdu
    k_steps
    unfold Hold
    rename News _ _ _ _ => N3
    refine' (rcne_texts ⟨_, (N3 _ (.tail _ (.head _))).1, rfl, _, rfl⟩ ⟨_, (N3 _ (.head _)).1, rfl, _, rfl⟩ hits hits ?ku) _ _ _ _ ?_
    case ku => ktr_units
    k_steps
    rename Fr _ _ _ _ => F6
    rename News _ _ _ _ => N6
    refine' ret _ _ _ st9 sy9 F6 (news_sub N6 ?km) (P9.more (by walk_at "mine om")) le ⟨hfar.1, fun q hq p hp => o1 q (.tail _ hq) p hp⟩ ?kz
    case km => exact fun q hq => .tail _ hq
    case kz => intro z h1; simp [h1]
  · obtain ⟨p, ds, vals, own', t, e1, e2, e3, ho, le⟩ := hv
    subst e1 e2 e3
    cases hdu with
    | @some _ valsd ownd q tq hq1 hq2 hq3 hq4 hq5 =>
    have hT9 := SyP.nodT P9
    have hF9 := SyP.nodF P9
    k_steps
    unfold Hold
    rename News _ _ _ _ => N3
    have m1 : ∀ x ∈ R, x ∈ ((KL, W.listOf its kc) :: (wl, W.listOf its nw) :: R) ++ (((p, insObj nm t vals) :: own') ++ symR w a sy9) := fun x hx => List.mem_append.mpr (.inl (.tail _ (.tail _ hx)))
    have m2 : ∀ x ∈ (p, insObj nm t vals) :: own', x ∈ ((KL, W.listOf its kc) :: (wl, W.listOf its nw) :: R) ++ (((p, insObj nm t vals) :: own') ++ symR w a sy9) := fun x hx => List.mem_append.mpr (.inr (List.mem_append.mpr (.inl hx)))
    refine' (rcne_ins hT9 hF9 (N3 _ (m2 _ (.head _))).1 (N3 _ (m1 _ hq1)).1 ho (hq3.le le) (fun x hx => (N3 _ (m2 _ (.tail _ hx))).1) (fun x hx => (N3 _ (m1 _ (hq2 x hx))).1) (fun x hx y hy => o1 y (.tail _ (.tail _ (hq2 y hy))) x (List.mem_append.mpr (.inl (.tail _ hx)))) ?ku) _ _ _ _ ?_
    case ku => ktr_units
    k_steps
    unfold Hold
    rename News _ _ _ _ => N4
    refine' (rcne_texts ⟨_, (N4 _ (.tail _ (.head _))).1, rfl, _, rfl⟩ ⟨_, (N4 _ (.head _)).1, rfl, _, rfl⟩ hits hits ?ku) _ _ _ _ ?_
    case ku => ktr_units
    k_steps
    unfold Hold
    rename News _ _ _ _ => N5
    have offR : ∀ x ∈ (wl, W.listOf its nw) :: R, ∀ y ∈ symR w a sy9, y.1 ≠ x.1 := fun x hx y hy => o1 x (.tail _ hx) y (List.mem_append.mpr (.inr hy))
    have N6 : News g L _ (((wl, W.listOf its nw) :: R) ++ symR w a sy9) := news_sub N5 fun x hx => by
      rcases List.mem_append.mp hx with hx | hx
      · exact List.mem_append.mpr (.inl (.tail _ hx))
      · exact List.mem_append.mpr (.inr (List.mem_append.mpr (.inr hx)))
    have hqo : ∀ x ∈ (q, insObj nm tq valsd) :: ownd, x ∈ R := fun x hx => by
      rcases List.mem_cons.mp hx with h | hx
      · exact h ▸ hq1
      · exact hq2 x hx
    refine' Spec.useOh (instruction_words_spec w mean mg mb a st9 (c + 650) sy9 q nm ks tq u valsd ds ownd hks hkk (hq3.le le) hq4 ?kho) (fun _ _ _ z => z) ?k1 ?k2 ?k3 N6 ?k5 ?kK ?kd ?ku ?kp offR ?_ ?kth
    case kho =>
      intro x hx hm
      obtain ⟨y, hy, e⟩ := List.mem_map.mp hm
      exact offR x (.tail _ (hqo x hx)) y hy e
    case k1 => k_asm
    case k2 => k_asm
    case k3 => k_asm
    case k5 => k_asm
    case kK => first | exact rfl | assumption
    case kd => ktr_room
    case ku => ktr_units
    case kp => exact ⟨P9, by walk_at "mine om", fun x hx => (N6 _ (List.mem_append.mpr (.inl (.tail _ (hqo x hx))))).1⟩
    case kth => exact fun _ _ _ x => x.no
    clear N6
    intro v10 h10 tk10 own10 st10 sy10 q10 P10 F10 N10 O10 D10 S10
    refine let_goal ?_
    intro gl_P
    obtain ⟨p10, its10, n10, e1, e2, hs10, e3⟩ := q10
    dsimp only [gl_P]
    clear gl_P
    subst e1 e2 e3
    rw [hq5] at hs10
    have offA := offs_all offR O10 D10
    (try k_fold)
    (try k_sweep)
    k_steps
    unfold Hold
    rename News _ _ _ _ => N7
    refine' (rcne_texts ⟨_, (N7 _ (List.mem_append.mpr (.inr (.head _)))).1, rfl, _, rfl⟩ ⟨_, (N7 _ (.head _)).1, rfl, _, rfl⟩ hs10 hits ?ku) _ _ _ _ ?_
    case ku => ktr_units
    k_steps
    rename Fr _ _ _ _ => F6
    rename News _ _ _ _ => N8
    refine' ret _ _ _ _ sy10 F6 (news_sub N8 ?km) (P10.more (by walk_at "mine om")) le ⟨hfar.1, fun x hx y hy => offA x hx y (List.mem_append.mpr (.inr hy))⟩ ?kz
    case km =>
      intro x hx
      rcases List.mem_append.mp hx with hx | hx
      · exact List.mem_append.mpr (.inl hx)
      · exact List.mem_append.mpr (.inr (List.mem_append.mpr (.inr hx)))
    case kz => intro z h1; simp [h1]
theorem off_SP0 : True := by
  w_top off
  trivial
theorem pop_head {w : World} {A : Around} {E : Value → Shared → Prop} {s : Shared} {h₀ : Heap} {L D : Addr} {m : Str → Option Value} {its : Array Value} {p : List Value} {y : Value} {n : Nat} {rest : List (Addr × Obj)} {Q : Value → Shared → Prop}
    (F : Fr h₀ L s.heap m) (N : News h₀ L s.heap ((D, W.listOf its n) :: rest)) (hap : ∀ p ∈ rest, @Ne Nat p.1 D) (e : its.toList = p ++ [y]) (hsz : its.size ≤ 16384)
    (h : ∀ h', Fr h₀ L h' m → News h₀ L h' ((D, W.listOf p.toArray (n + 1)) :: rest) → Q y { s with heap := h' }) : wpAny (model PG w) A (call (.builtin "list.pop") [.ref D]) Q E s :=
  kl_pop F N (p := p) (y := y) (by rw [e]; exact kpa_last y p) (.head hap) (by rw [sizeLine_eq, Array.length_toList]; walk_at "mine om") h
theorem strsAre_pop {us : List Value} {ws : List Str} {x : Str} (h : StrsAre us (ws ++ [x])) : ∃ p y, us = p ++ [y] ∧ StrsAre p ws := by
  induction ws generalizing us with
  | nil =>
    cases h with
    | cons _ t r => cases r; exact ⟨[], _, rfl, .nil⟩
  | cons z ws ih =>
    cases h with
    | cons _ t r =>
      refine let_goal ?_
      intro gl_P
      obtain ⟨p, y, e, h⟩ := ih r
      dsimp only [gl_P]
      clear gl_P
      exact ⟨.str z t :: p, y, by rw [e]; rfl, .cons z t h⟩
theorem strsAre_popL {us : List Value} {nm : Str} {ws : List Str} (h : StrsAre us (nm :: ws)) (hne : ws ≠ []) : ∃ p y, us = p ++ [y] ∧ StrsAre p (nm :: ws.dropLast) := by
  rw [← List.dropLast_concat_getLast hne, ← List.cons_append] at h
  exact strsAre_pop h
theorem DueV.sub {w : World} {st : SymSt} {nm ks : Str} {wf : List Str} {R R' : List (Addr × Obj)} (hs : ∀ x ∈ R, x ∈ R') {du : Option (List Opd)} {v : Value} (x : DueV w st nm ks wf R du v) : DueV w st nm ks wf R' du v := by
  cases x with
  | none => exact .none
  | some q t h1 h2 h3 h4 h5 => exact .some q t (hs _ h1) (fun x hx => hs _ (h2 x hx)) h3 h4 h5
theorem DueV.le {w : World} {st st' : SymSt} (q : st.le st') {nm ks : Str} {wf : List Str} {R : List (Addr × Obj)} {du : Option (List Opd)} {v : Value} (x : DueV w st nm ks wf R du v) : DueV w st' nm ks wf R du v := by
  cases x with
  | none => exact .none
  | some p t h1 h2 h3 h4 h5 => exact .some p t h1 h2 (h3.le q) h4 h5
end
section
theorem words_J50 : True := by
  k_with "J50 call ref" => ((with_reducible show wpAny _ _ (call (Value.ref 397) _) _ _ _); refine Hold.in ?_)
  k_with "J50 call builtin:list.append" => refine Hold.in ?_
  k_with "J50 call builtin:list.pop" => refine Hold.in ?_
  k_with "J50 execs cons" => ((with_reducible show wpAny _ _ (execs (Stmt.Assign [Expr.Name (Str.ofString "kept") _] _ _ :: _) _) _ _ _); refine Hold.in ?_)
  trivial
local macro_rules | `(tactic| walk_at $s) => fwd "J50 " s
theorem off_SP1 : True := by
  w_top off
  trivial
local macro_rules | `(tactic| walk_at $s) => Lean.Macro.throwUnsupported
theorem spoil_tail (w mean mg mb) (dp un : Nat) (gd : Option (List Code)) (base g h : Heap) (nm0 : Str) (L fa : Addr) (cd : Value) (m : Str → Option Value) (a : SymA) (st : SymSt) (c : Nat) (sy : List (Addr × Obj)) (fl wl tb : Addr) (ob : Obj) (us : List Value) (n : Nat) (its : Array Value) (nw : Nat) (R : List (Addr × Obj)) (nm ks ks' : Str) (ws : List Str) (r0s rs : List (Option Opd)) (du : Option (List Opd)) (dv : Value) (u : Tok) (gn : Array GenState) (dr : Drawn) (tk : Nat) (os : OsState) (Q : Flow → Shared → Prop) (E : Value → Shared → Prop)
    (hE : PassesOwn (model PG w) (({ handled := none, depth := dp, frames := some [], guards := gd, units := un } : Around).deeper (envOf nm0 lawScope L fa cd)) (envOf nm0 lawScope L fa cd) E)
    (B : Below { handled := none, depth := dp, frames := some [], guards := gd, units := un } base [] g) (XB : (Mine.hd.heap_1 w.params).In base) (TB : Top PV LO mean mg mb base)
    (F : Fr g L h (kstB m [(Str.ofString "figures", .ref fl), (Str.ofString "signs", .ref a.s), (Str.ofString "words", .ref wl), (Str.ofString "forms", .ref tb), (Str.ofString "due", dv), (Str.ofString "kinds", .str ks u)])) (X : (Mine.hd.heap_1 w.params).In g)
    (N : News g L h (((fl, W.listOf us.toArray n) :: (wl, W.listOf its nw) :: R) ++ symR w a sy)) (T : Top PV LO mean mg mb g)
    (hd : dp + 40 < recursionLimit) (hu : un + 700 < cLine) (hf : FigL us) (hits : StrsAre its.toList (nm :: ws)) (P : SyP w a st c sy) (hc : c + 700 < 10000) (hfar : Far ((fl, W.listOf us.toArray n) :: (wl, W.listOf its nw) :: R) (symR w a sy))
    (hob : (tb, ob) ∈ R) (hfo : FormsO w tb ob) (hrow : RowOk (nm, ks)) (hks' : ks' = formK nm ks) (hl : if nm = Str.ofString "jump" then (PySem.Spec.lookup (.str nm) (datS shapesL)).isSome = false else lookS nm = some ks')
    (hW : LawW ks.cps.toList ks'.cps.toList ws r0s rs) (hdu1 : nm = Str.ofString "jump" → du = none) (hdu2 : nm ≠ Str.ofString "jump" → du = seqO rs)
    (hdu : DueV w st nm ks (nm :: ws) R du dv)
    (ret : ∀ h' tk' m' us' n' its' nw' st' sy', FigL us' → Fr g L h' m' → News g L h' (((fl, W.listOf us'.toArray n') :: (wl, W.listOf its' nw') :: R) ++ symR w a sy') → SyP w a st' (c + 700) sy' → st.le st' → Far ((fl, W.listOf us'.toArray n') :: (wl, W.listOf its' nw') :: R) (symR w a sy') →
      (∀ z, z ≠ Str.ofString "kept" → z ≠ Str.ofString "due" → z ≠ Str.ofString "spoil" → m' z = kstB m [(Str.ofString "figures", .ref fl), (Str.ofString "signs", .ref a.s), (Str.ofString "words", .ref wl), (Str.ofString "forms", .ref tb), (Str.ofString "due", dv), (Str.ofString "kinds", .str ks u)] z) → Q .next ⟨h', gn, dr, tk', os⟩) :
    wpAny (model PG w) (({ handled := none, depth := dp, frames := some [], guards := gd, units := un } : Around).deeper (envOf nm0 lawScope L fa cd)) (execs spoilTail (envOf nm0 lawScope L fa cd)) Q E ⟨h, gn, dr, tk, os⟩ := by
  refine' code_letE ?hcb ?hcs hE ?_
  case hcb => dsimp only [spoilTail, turnBody, stAt, lawScope, fnAt, PySem.Challenge.pw_rh0084_01, List.getD, List.getElem?_cons_succ, List.getElem?_cons_zero, Option.getD, stBody, fnScope, stParts, List.drop] <;> exact rfl
  case hcs => dsimp only [spoilTail, turnBody, stAt, lawScope, fnAt, PySem.Challenge.pw_rh0084_01, List.getD, List.getElem?_cons_succ, List.getElem?_cons_zero, Option.getD, stBody, fnScope, stParts, List.drop] <;> exact rfl
  intro env9 A9 hE9
  refine let_goal ?_
  intro gl_P
  obtain ⟨w1, w2, w3, w4, w5, w6, w7⟩ := hrow
  dsimp only [gl_P]
  clear gl_P
  have hsz : its.size = (nm :: ws).length := strsAre_size hits
  have hwl : ws.length ≤ 20 := by
    have e : ks.cps.toList.length = ks.length := by simp [Str.length]
    exact Nat.le_trans hW.lens.2.2.2 (Nat.mul_le_mul_left 5 (Nat.le_trans (Nat.le_of_eq e) w2))
  k_steps
  unfold Hold
  refine' useDrawH (by walk_at "mine om") ?k1 ?k2 ?k3 N ?k5 ?kK ?kd ?ku hf hfar.head ?_
  case k1 => k_asm
  case k2 => k_asm
  case k3 => k_asm
  case k5 => k_asm
  case kK => first | exact rfl | assumption
  case kd => ktr_room
  case ku => ktr_units
  intro i1 t1 h1 tk1 us1 n1 lo1 hi1 hf1 F1 N1
  replace N1 : News g L h1 ((fl, W.listOf us1.toArray n1) :: (wl, W.listOf its nw) :: (R ++ symR w a sy)) := N1
  have hfar1 : Far ((fl, W.listOf us1.toArray n1) :: (wl, W.listOf its nw) :: R) (symR w a sy) := hfar.set
  have hsz2 : its.size ≤ 16384 := by rw [hsz]; exact Nat.le_trans (Nat.succ_le_succ hwl) (by decide)
  have hsz3 : its.size = ws.length + 1 := by rw [hsz]; rfl
  have hk76 : ∀ x ∈ ks.cps.toList, x ≠ 76 := fun x hx e => by have := w3 x hx; rw [e] at this; exact absurd this (by decide)
  have hks'z : ks'.length ≤ 10 := by rw [hks']; dsimp only at w2 w4; walk_at "mine om"
  have w7' : ∀ x ∈ ks'.cps.toList, x ∈ kindL := by rw [hks']; exact w7
  have hl1 : nm = Str.ofString "jump" → (PySem.Spec.lookup (.str nm) (datS shapesL)).isSome = false := fun e => by rw [if_pos e] at hl; exact hl
  have hl2 : nm ≠ Str.ofString "jump" → PySem.Spec.lookup (.str nm) (datS shapesL) = some (.str ks') := fun e => by rw [if_neg e] at hl; exact lookS_some hl
  have hlast : ∀ c, ks.cps.toList.getLast? = some c → c ≠ 84 ∧ c ≠ 85 := fun c e => ⟨fun q => w6.1 (q ▸ e), fun q => w6.2 (q ▸ e)⟩
  (try k_fold)
  (try k_sweep)
  k_steps
  · unfold Hold
    rename i1 = 5 => e5
    subst e5
    rename News _ _ _ _ => N2
    refine append_head (v := .str (Str.ofString "1") _) (by assumption) (news_sub N2 mem_swap) (hfar1.perm (.swap _ _ _)).head (by walk_at "mine om") (fun h8 F8 N8 => ?_)
    clear N2
    obtain ⟨tv, N3⟩ : ∃ tv, News g L h8 ((wl, W.listOf (its.push (.str (Str.ofString "1") tv)) (nw + 1)) :: (fl, W.listOf us1.toArray n1) :: (R ++ symR w a sy)) := ⟨_, N8⟩
    clear N8
    have hfarW : Far ((wl, W.listOf (its.push (.str (Str.ofString "1") tv)) (nw + 1)) :: (fl, W.listOf us1.toArray n1) :: R) (symR w a sy) := (hfar1.perm (.swap _ _ _)).set
    (try k_fold)
    (try k_sweep)
    k_steps
    unfold Hold
    rename Fr _ _ _ _ => F9
    rename News _ _ _ _ => N9
    obtain ⟨F8, e8⟩ := Fr.pickE (ps := [(Str.ofString "signs", .ref a.s), (Str.ofString "words", .ref wl), (Str.ofString "forms", .ref tb), (Str.ofString "due", .none), (Str.ofString "kinds", .str ks u)]) F9 (List.forall_mem_cons.mpr ⟨by rfl, List.forall_mem_cons.mpr ⟨by rfl, List.forall_mem_cons.mpr ⟨by rfl, List.forall_mem_cons.mpr ⟨by rfl, List.forall_mem_cons.mpr ⟨by rfl, fun _ h => nomatch h⟩⟩⟩⟩⟩)
    refine' kept_tail w mean mg mb dp un gd base g _ nm0 L fa cd _ a st c sy wl tb ob (its.push (.str (Str.ofString "1") tv)) (nw + 1) ((fl, W.listOf us1.toArray n1) :: R) nm ks ks' (nm :: (ws ++ [Str.ofString "1"])) none .none u gn dr _ os _ _ hE B XB TB F8 X N9 T hd hu (strsAre_pushS hits) (by simp; walk_at "mine om") P hc hfarW (.tail _ hob) hfo w1 (by dsimp only at w2; walk_at "mine om") hk76 hks'z w7' ⟨(ws ++ [Str.ofString "1"]), rfl, (fun x hx => (List.mem_append.mp hx).elim (hW.words x) fun q => by rw [List.mem_singleton.mp q]; exact ⟨brace_ok.2.2.1.ok, entryOk_of brace_ok.2.2.1 brace_ok.2.2.2.2.2⟩)⟩ (fun e => ⟨hl1 e, rfl⟩) (fun e => ⟨hl2 e, hW.more nm _⟩) .none ?kr
    case kr =>
      intro h' tk' m' st' sy' F' N' P' le' far' hz
      k_steps
      refine ret _ _ _ us1 n1 _ _ st' sy' hf1 F' (news_sub N' mem_swap) P' le' (far'.perm (.swap _ _ _)) fun z z1 z2 z3 => ?_
      rw [hz z z1, e8]
      first | exact if_neg z2 | exact if_neg z1 | exact if_neg z3 | exact (if_neg z1).trans (if_neg z2) | exact (if_neg z2).trans (if_neg z1) | simp [z1, z2, z3, kstB]
  · unfold Hold
    (try dsimp only)
    rename 1 < _ => hlt
    have hne : ws ≠ [] := fun e => by rw [e] at hlt; simp at hlt
    refine let_goal ?_
    intro gl_P
    obtain ⟨pp, yy, ey, hs⟩ := strsAre_popL hits hne
    dsimp only [gl_P]
    clear gl_P
    rename News _ _ _ _ => N2
    refine pop_head (by assumption) (news_sub N2 mem_swap) (hfar1.perm (.swap _ _ _)).head ey hsz2 (fun h8 F8 N8 => ?_)
    clear N2
    have hfarW : Far ((wl, W.listOf pp.toArray (nw + 1)) :: (fl, W.listOf us1.toArray n1) :: R) (symR w a sy) := (hfar1.perm (.swap _ _ _)).set
    (try k_fold)
    (try k_sweep)
    k_steps
    unfold Hold
    rename Fr _ _ _ _ => F9
    rename News _ _ _ _ => N9
    obtain ⟨F8, e8⟩ := Fr.pickE (ps := [(Str.ofString "signs", .ref a.s), (Str.ofString "words", .ref wl), (Str.ofString "forms", .ref tb), (Str.ofString "due", .none), (Str.ofString "kinds", .str ks u)]) F9 (List.forall_mem_cons.mpr ⟨by rfl, List.forall_mem_cons.mpr ⟨by rfl, List.forall_mem_cons.mpr ⟨by rfl, List.forall_mem_cons.mpr ⟨by rfl, List.forall_mem_cons.mpr ⟨by rfl, fun _ h => nomatch h⟩⟩⟩⟩⟩)
    refine' kept_tail w mean mg mb dp un gd base g _ nm0 L fa cd _ a st c sy wl tb ob pp.toArray (nw + 1) ((fl, W.listOf us1.toArray n1) :: R) nm ks ks' (nm :: ws.dropLast) none .none u gn dr _ os _ _ hE B XB TB F8 X N9 T hd hu hs (by simp; walk_at "mine om") P hc hfarW (.tail _ hob) hfo w1 (by dsimp only at w2; walk_at "mine om") hk76 hks'z w7' ⟨ws.dropLast, rfl, (fun x hx => hW.words x (List.dropLast_subset _ hx))⟩ (fun e => ⟨hl1 e, rfl⟩) (fun e => ⟨hl2 e, hW.less nm hlast hne⟩) .none ?kr
    case kr =>
      intro h' tk' m' st' sy' F' N' P' le' far' hz
      k_steps
      refine ret _ _ _ us1 n1 _ _ st' sy' hf1 F' (news_sub N' mem_swap) P' le' (far'.perm (.swap _ _ _)) fun z z1 z2 z3 => ?_
      rw [hz z z1, e8]
      first | exact if_neg z2 | exact if_neg z1 | exact if_neg z3 | exact (if_neg z1).trans (if_neg z2) | exact (if_neg z2).trans (if_neg z1) | simp [z1, z2, z3, kstB]
  · unfold Hold
    rename Fr _ _ _ _ => F9
    rename News _ _ _ _ => N9
    obtain ⟨F8, e8⟩ := Fr.pickE (ps := [(Str.ofString "signs", .ref a.s), (Str.ofString "words", .ref wl), (Str.ofString "forms", .ref tb), (Str.ofString "due", dv), (Str.ofString "kinds", .str ks u)]) F9 (List.forall_mem_cons.mpr ⟨by rfl, List.forall_mem_cons.mpr ⟨by rfl, List.forall_mem_cons.mpr ⟨by rfl, List.forall_mem_cons.mpr ⟨by rfl, List.forall_mem_cons.mpr ⟨by rfl, fun _ h => nomatch h⟩⟩⟩⟩⟩)
    refine' kept_tail w mean mg mb dp un gd base g _ nm0 L fa cd _ a st c sy wl tb ob its nw ((fl, W.listOf us1.toArray n1) :: R) nm ks ks' (nm :: ws) du dv u gn dr _ os _ _ hE B XB TB F8 X (news_sub N9 mem_swap) T hd hu hits (by simp; walk_at "mine om") P hc (hfar1.perm (.swap _ _ _)) (.tail _ hob) hfo w1 (by dsimp only at w2; walk_at "mine om") hk76 hks'z w7' ⟨ws, rfl, hW.words⟩ (fun e => ⟨hl1 e, hdu1 e⟩) (fun e => ⟨hl2 e, by rw [hW.ins, hdu2 e]⟩) (hdu.sub fun x hx => .tail _ hx) ?kr
    case kr =>
      intro h' tk' m' st' sy' F' N' P' le' far' hz
      k_steps
      refine ret _ _ _ us1 n1 _ _ st' sy' hf1 F' (news_sub N' mem_swap) P' le' (far'.perm (.swap _ _ _)) fun z z1 z2 z3 => ?_
      rw [hz z z1, e8]
      first | exact if_neg z2 | exact if_neg z1 | exact if_neg z3 | exact (if_neg z1).trans (if_neg z2) | exact (if_neg z2).trans (if_neg z1) | simp [z1, z2, z3, kstB]
  · unfold Hold
    rename Fr _ _ _ _ => F9
    rename News _ _ _ _ => N9
    obtain ⟨F8, e8⟩ := Fr.pickE (ps := [(Str.ofString "signs", .ref a.s), (Str.ofString "words", .ref wl), (Str.ofString "forms", .ref tb), (Str.ofString "due", dv), (Str.ofString "kinds", .str ks u)]) F9 (List.forall_mem_cons.mpr ⟨by rfl, List.forall_mem_cons.mpr ⟨by rfl, List.forall_mem_cons.mpr ⟨by rfl, List.forall_mem_cons.mpr ⟨by rfl, List.forall_mem_cons.mpr ⟨by rfl, fun _ h => nomatch h⟩⟩⟩⟩⟩)
    refine' kept_tail w mean mg mb dp un gd base g _ nm0 L fa cd _ a st c sy wl tb ob its nw ((fl, W.listOf us1.toArray n1) :: R) nm ks ks' (nm :: ws) du dv u gn dr _ os _ _ hE B XB TB F8 X (news_sub N9 mem_swap) T hd hu hits (by simp; walk_at "mine om") P hc (hfar1.perm (.swap _ _ _)) (.tail _ hob) hfo w1 (by dsimp only at w2; walk_at "mine om") hk76 hks'z w7' ⟨ws, rfl, hW.words⟩ (fun e => ⟨hl1 e, hdu1 e⟩) (fun e => ⟨hl2 e, by rw [hW.ins, hdu2 e]⟩) (hdu.sub fun x hx => .tail _ hx) ?kr
    case kr =>
      intro h' tk' m' st' sy' F' N' P' le' far' hz
      k_steps
      refine ret _ _ _ us1 n1 _ _ st' sy' hf1 F' (news_sub N' mem_swap) P' le' (far'.perm (.swap _ _ _)) fun z z1 z2 z3 => ?_
      rw [hz z z1, e8]
      first | exact if_neg z2 | exact if_neg z1 | exact if_neg z3 | exact (if_neg z1).trans (if_neg z2) | exact (if_neg z2).trans (if_neg z1) | simp [z1, z2, z3, kstB]
end
section
theorem words_J51 : True := by
  k_with "J51 call type:tuple" => refine Hold.in ?_
  k_with "J51 compareOp NotIn none ref" => refine Hold.in ?_
  k_with "J51 execs cons" => ((with_reducible show wpAny _ _ (execs (Stmt.Assign [Expr.Name (Str.ofString "spoil") _] _ _ :: _) _) _ _ _); refine Hold.in ?_)
  trivial
local macro_rules | `(tactic| walk_at $s) => fwd "J51 " s
theorem off_TL1 : True := by
  w_top off
  trivial
theorem turn_tail (w mean mg mb) (dp un : Nat) (gd : Option (List Code)) (base g h : Heap) (nm0 : Str) (L fa : Addr) (cd : Value) (m : Str → Option Value) (a : SymA) (st : SymSt) (c : Nat) (sy : List (Addr × Obj)) (fl wl pl tb : Addr) (ob : Obj) (us : List Value) (n : Nat) (its : Array Value) (nw np : Nat) (R own : List (Addr × Obj)) (nm ks ks' : Str) (ws : List Str) (r0s rs : List (Option Opd)) (vals : List Value) (t0 u u2 : Tok) (gn : Array GenState) (dr : Drawn) (tk : Nat) (os : OsState) (Q : Flow → Shared → Prop) (E : Value → Shared → Prop)
    (hE : PassesOwn (model PG w) (({ handled := none, depth := dp, frames := some [], guards := gd, units := un } : Around).deeper (envOf nm0 lawScope L fa cd)) (envOf nm0 lawScope L fa cd) E)
    (B : Below { handled := none, depth := dp, frames := some [], guards := gd, units := un } base [] g) (XB : (Mine.hd.heap_1 w.params).In base) (TB : Top PV LO mean mg mb base)
    (F : Fr g L h (kstB m [(Str.ofString "figures", .ref fl), (Str.ofString "signs", .ref a.s), (Str.ofString "words", .ref wl), (Str.ofString "parts", .ref pl), (Str.ofString "forms", .ref tb), (Str.ofString "name", .str nm u2), (Str.ofString "kinds", .str ks u)])) (X : (Mine.hd.heap_1 w.params).In g)
    (N : News g L h (((fl, W.listOf us.toArray n) :: (wl, W.listOf its nw) :: (pl, W.listOf (Value.str nm t0 :: vals).toArray np) :: (own ++ R)) ++ symR w a sy)) (T : Top PV LO mean mg mb g)
    (hd : dp + 40 < recursionLimit) (hu : un + 700 < cLine) (hf : FigL us) (hits : StrsAre its.toList (nm :: ws)) (P : SyP w a st c sy) (hc : c + 700 < 10000) (hfar : Far ((fl, W.listOf us.toArray n) :: (wl, W.listOf its nw) :: (pl, W.listOf (Value.str nm t0 :: vals).toArray np) :: (own ++ R)) (symR w a sy))
    (hob : (tb, ob) ∈ R) (hfo : FormsO w tb ob) (hrow : RowOk (nm, ks)) (hks' : ks' = formK nm ks) (hl : if nm = Str.ofString "jump" then (PySem.Spec.lookup (.str nm) (datS shapesL)).isSome = false else lookS nm = some ks')
    (hW : LawW ks.cps.toList ks'.cps.toList ws r0s rs) (hV : PartsV w st rs vals own)
    (ret : ∀ h' tk' m' us' n' st' sy', FigL us' → Fr g L h' m' → News g L h' (((fl, W.listOf us'.toArray n') :: R) ++ symR w a sy') → SyP w a st' (c + 700) sy' → st.le st' → Far ((fl, W.listOf us'.toArray n') :: R) (symR w a sy') →
      (∀ z, z ≠ Str.ofString "kept" → z ≠ Str.ofString "due" → z ≠ Str.ofString "spoil" → m' z = kstB m [(Str.ofString "figures", .ref fl), (Str.ofString "signs", .ref a.s), (Str.ofString "words", .ref wl), (Str.ofString "parts", .ref pl), (Str.ofString "forms", .ref tb), (Str.ofString "name", .str nm u2), (Str.ofString "kinds", .str ks u)] z) → Q .next ⟨h', gn, dr, tk', os⟩) :
    wpAny (model PG w) (({ handled := none, depth := dp, frames := some [], guards := gd, units := un } : Around).deeper (envOf nm0 lawScope L fa cd)) (execs turnTail (envOf nm0 lawScope L fa cd)) Q E ⟨h, gn, dr, tk, os⟩ := by
  refine' code_letE ?hcb ?hcs hE ?_
  case hcb => dsimp only [turnTail, turnBody, stAt, lawScope, fnAt, PySem.Challenge.pw_rh0084_01, List.getD, List.getElem?_cons_succ, List.getElem?_cons_zero, Option.getD, stBody, fnScope, stParts, List.drop] <;> exact rfl
  case hcs => dsimp only [turnTail, turnBody, stAt, lawScope, fnAt, PySem.Challenge.pw_rh0084_01, List.getD, List.getElem?_cons_succ, List.getElem?_cons_zero, Option.getD, stBody, fnScope, stParts, List.drop] <;> exact rfl
  intro env9 A9 hE9
  have w2 := hrow.2.1
  have hvl : vals.length ≤ 10 := by
    have e : ks.cps.toList.length = ks.length := by simp [Str.length]
    exact Nat.le_trans (Nat.le_of_eq ((hV.len.trans hW.lens.2.2.1).trans e)) (Nat.le_trans w2 (by decide))
  have hheld : Held own h := fun x hx => (N x (by first | walk_at "mine mem1" | simp [hx])).1
  k_steps
  · unfold Hold
    (try dsimp only)
    rename (nm != Str.ofString "jump") = true => hnj
    have hne : nm ≠ Str.ofString "jump" := by simpa using hnj
    rename News _ _ _ _ => N1
    have hh1 := (N1 (pl, W.listOf (Value.str nm t0 :: vals).toArray np) (by first | walk_at "mine mem1" | simp)).1
    have hheld1 : Held own _ := fun x hx => (N1 x (by first | walk_at "mine mem1" | simp [hx])).1
    refine' SeqAt.notIn_listAt isNoneV ⟨_, hh1, rfl, _, rfl⟩ ?he ?_
    case he =>
      intro y hy
      simp only [List.mem_toArray, List.mem_cons] at hy
      rcases hy with rfl | hy
      · exact SeqAt.EqAt.str_none _ _
      · exact (hV.nones hheld1 (by ktr_units)).1 y hy
    have hany : (Value.str nm t0 :: vals).toArray.any isNoneV = (seqO rs).isNone := by
      have := (hV.nones (A := { handled := none, depth := dp, frames := some [], guards := gd, units := un }) (s := ⟨h, gn, dr, tk, os⟩) hheld (by ktr_units)).2
      simp [isNoneV, this]
    rw [hany]
    clear hany hh1
    cases hq : seqO rs with
    | none =>
      simp only [Option.isNone_none, Bool.not_true]
      k_steps
      unfold Hold
      rename News _ _ _ _ => N9
      rename Fr _ _ _ _ => F9
      obtain ⟨F8, e8⟩ := Fr.pickE (ps := [(Str.ofString "figures", .ref fl), (Str.ofString "signs", .ref a.s), (Str.ofString "words", .ref wl), (Str.ofString "forms", .ref tb), (Str.ofString "due", .none), (Str.ofString "kinds", .str ks u)]) F9 (List.forall_mem_cons.mpr ⟨by rfl, List.forall_mem_cons.mpr ⟨by rfl, List.forall_mem_cons.mpr ⟨by rfl, List.forall_mem_cons.mpr ⟨by rfl, List.forall_mem_cons.mpr ⟨by rfl, List.forall_mem_cons.mpr ⟨by rfl, fun _ h => nomatch h⟩⟩⟩⟩⟩⟩)
      refine' spoil_tail w mean mg mb dp un gd base g _ nm0 L fa cd _ a st c sy fl wl tb ob us n its nw ((pl, W.listOf (Value.str nm t0 :: vals).toArray np) :: (own ++ R)) nm ks ks' ws r0s rs none .none u gn dr _ os _ _ hE B XB TB F8 X N9 T hd hu hf hits P hc hfar ?kob hfo hrow hks' hl hW (fun _ => rfl) (fun _ => hq.symm) .none ?kr
      case kob => simp [hob]
      case kr =>
        intro h' tk' m' us' n' its' nw' st' sy' hf' F' N' P' le' far' hz
        k_steps
        refine ret _ _ _ us' n' st' sy' hf' F' (news_sub N' ?_) P' le' (far'.sub ?_) fun z z1 z2 z3 => ?_
        · exact Sub.out (by walk_at "mine sub")
        · first | exact .cons_cons _ (.cons _ (.cons _ (List.sublist_append_right _ _))) | exact .cons_cons _ (.cons _ (.cons _ (.cons _ (List.sublist_append_right _ _))))
        rw [hz z z1 z2 z3, e8]
        first | exact if_neg z2 | exact if_neg z1 | exact if_neg z3 | exact (if_neg z1).trans (if_neg z2) | exact (if_neg z2).trans (if_neg z1) | simp [z1, z2, z3, kstB]
    | some ds =>
      simp only [Option.isNone_some, Bool.not_false]
      k_steps
      unfold Hold
      rename News _ _ _ _ => N7
      refine kde_tupleOf (zs := Value.str nm t0 :: vals) (by assumption) N7 ⟨_, (N7 (pl, W.listOf (Value.str nm t0 :: vals).toArray np) (by first | walk_at "mine mem1" | simp)).1, rfl, _, rfl⟩ (by simp; walk_at "mine om") rfl (fun Tp h8 F8 N8 lt8 => ?_)
      have hfar2 : Far ((fl, W.listOf us.toArray n) :: (wl, W.listOf its nw) :: (Tp, insObj nm t0 vals) :: (pl, W.listOf (Value.str nm t0 :: vals).toArray np) :: (own ++ R)) (symR w a sy) := (hfar.cons (p := Tp) (o := insObj nm t0 vals) fun x hx => Nat.ne_of_lt (lt8 x hx)).perm (List.perm_middle (l₁ := [_, _])).symm
      have N10 : News g L h8 (((fl, W.listOf us.toArray n) :: (wl, W.listOf its nw) :: (Tp, insObj nm t0 vals) :: (pl, W.listOf (Value.str nm t0 :: vals).toArray np) :: (own ++ R)) ++ symR w a sy) := news_sub N8 (Sub.out (by walk_at "mine sub"))
      clear N8
      obtain ⟨x1, x2⟩ := hW.texts ds hq
      clear N7
      (try k_fold)
      (try k_sweep)
      k_steps
      unfold Hold
      rename News _ _ _ _ => N9
      rename Fr _ _ _ _ => F9
      obtain ⟨F8, e8⟩ := Fr.pickE (ps := [(Str.ofString "figures", .ref fl), (Str.ofString "signs", .ref a.s), (Str.ofString "words", .ref wl), (Str.ofString "forms", .ref tb), (Str.ofString "due", (.ref Tp)), (Str.ofString "kinds", .str ks u)]) F9 (List.forall_mem_cons.mpr ⟨by rfl, List.forall_mem_cons.mpr ⟨by rfl, List.forall_mem_cons.mpr ⟨by rfl, List.forall_mem_cons.mpr ⟨by rfl, List.forall_mem_cons.mpr ⟨by rfl, List.forall_mem_cons.mpr ⟨by rfl, fun _ h => nomatch h⟩⟩⟩⟩⟩⟩)
      refine' spoil_tail w mean mg mb dp un gd base g _ nm0 L fa cd _ a st c sy fl wl tb ob us n its nw ((Tp, insObj nm t0 vals) :: (pl, W.listOf (Value.str nm t0 :: vals).toArray np) :: (own ++ R)) nm ks ks' ws r0s rs (some ds) (.ref Tp) u gn dr _ os _ _ hE B XB TB F8 X N9 T hd hu hf hits P hc hfar2 ?kob hfo hrow hks' hl hW (fun e => absurd e hne) (fun _ => hq.symm) (.some Tp t0 (.head _) (fun x hx => .tail _ (.tail _ (List.mem_append.mpr (.inl hx)))) (PartsV.ops hW hV ds hq) x2 (by rw [x1])) ?kr
      case kob => simp [hob]
      case kr =>
        intro h' tk' m' us' n' its' nw' st' sy' hf' F' N' P' le' far' hz
        k_steps
        refine ret _ _ _ us' n' st' sy' hf' F' (news_sub N' ?_) P' le' (far'.sub ?_) fun z z1 z2 z3 => ?_
        · exact Sub.out (by walk_at "mine sub")
        · first | exact .cons_cons _ (.cons _ (.cons _ (List.sublist_append_right _ _))) | exact .cons_cons _ (.cons _ (.cons _ (.cons _ (List.sublist_append_right _ _))))
        rw [hz z z1 z2 z3, e8]
        first | exact if_neg z2 | exact if_neg z1 | exact if_neg z3 | exact (if_neg z1).trans (if_neg z2) | exact (if_neg z2).trans (if_neg z1) | simp [z1, z2, z3, kstB]
  · unfold Hold
    rename (nm != Str.ofString "jump") = false => hjf
    have hej : nm = Str.ofString "jump" := by simpa using hjf
    rename News _ _ _ _ => N9
    rename Fr _ _ _ _ => F9
    obtain ⟨F8, e8⟩ := Fr.pickE (ps := [(Str.ofString "figures", .ref fl), (Str.ofString "signs", .ref a.s), (Str.ofString "words", .ref wl), (Str.ofString "forms", .ref tb), (Str.ofString "due", .none), (Str.ofString "kinds", .str ks u)]) F9 (List.forall_mem_cons.mpr ⟨by rfl, List.forall_mem_cons.mpr ⟨by rfl, List.forall_mem_cons.mpr ⟨by rfl, List.forall_mem_cons.mpr ⟨by rfl, List.forall_mem_cons.mpr ⟨by rfl, List.forall_mem_cons.mpr ⟨by rfl, fun _ h => nomatch h⟩⟩⟩⟩⟩⟩)
    refine' spoil_tail w mean mg mb dp un gd base g _ nm0 L fa cd _ a st c sy fl wl tb ob us n its nw ((pl, W.listOf (Value.str nm t0 :: vals).toArray np) :: (own ++ R)) nm ks ks' ws r0s rs none .none u gn dr _ os _ _ hE B XB TB F8 X N9 T hd hu hf hits P hc hfar ?kob hfo hrow hks' hl hW (fun _ => rfl) (fun e => absurd hej e) .none ?kr
    case kob => simp [hob]
    case kr =>
      intro h' tk' m' us' n' its' nw' st' sy' hf' F' N' P' le' far' hz
      k_steps
      refine ret _ _ _ us' n' st' sy' hf' F' (news_sub N' ?_) P' le' (far'.sub ?_) fun z z1 z2 z3 => ?_
      · exact Sub.out (by walk_at "mine sub")
      · first | exact .cons_cons _ (.cons _ (.cons _ (List.sublist_append_right _ _))) | exact .cons_cons _ (.cons _ (.cons _ (.cons _ (List.sublist_append_right _ _))))
      rw [hz z z1 z2 z3, e8]
      first | exact if_neg z2 | exact if_neg z1 | exact if_neg z3 | exact (if_neg z1).trans (if_neg z2) | exact (if_neg z2).trans (if_neg z1) | simp [z1, z2, z3, kstB]
end
section
theorem words_J52 : True := by
  k_with "J52 mine om" => with_reducible first | exact tb_a (by assumption) (by assumption) (by assumption) | exact tb_b (by assumption) (by assumption) (by assumption) | exact tb_c (by assumption) (by assumption)
  k_with "J52 call ref" => ((with_reducible show wpAny _ _ (call (Value.ref 397) _) _ _ _); refine Hold.in ?_)
  k_with "J52 exec For Name Name cons nil" => refine Hold.in ?_
  k_with "J52 subscriptTail" => refine Hold.in ?_
  k_with "J52 execs cons" => ((with_reducible show wpAny _ _ (execs (Stmt.Assign [Expr.Name (Str.ofString "due") _] _ _ :: Stmt.If _ _ _ _ :: _) _) _ _ _); refine Hold.in ?_)
  trivial
local macro_rules | `(tactic| walk_at $s) => fwd "J52 " s
theorem off_TB1 : True := by
  w_top off
  trivial
local macro_rules | `(tactic| walk_at $s) => Lean.Macro.throwUnsupported
theorem turn_body (w mean mg mb) (dp un : Nat) (gd : Option (List Code)) (base g h : Heap) (nm0 : Str) (L fa : Addr) (cd : Value) (m : Str → Option Value) (a : SymA) (st : SymSt) (c : Nat) (sy : List (Addr × Obj)) (fl tb rl : Addr) (ob : Obj) (us rits : List Value) (n rn : Nat) (R : List (Addr × Obj)) (gn : Array GenState) (dr : Drawn) (tk : Nat) (os : OsState) (Q : Flow → Shared → Prop) (E : Value → Shared → Prop)
    (hE : PassesOwn (model PG w) (({ handled := none, depth := dp, frames := some [], guards := gd, units := un } : Around).deeper (envOf nm0 lawScope L fa cd)) (envOf nm0 lawScope L fa cd) E)
    (B : Below { handled := none, depth := dp, frames := some [], guards := gd, units := un } base [] g) (XB : (Mine.hd.heap_1 w.params).In base) (TB : Top PV LO mean mg mb base)
    (F : Fr g L h (kstB m [(Str.ofString "figures", .ref fl), (Str.ofString "signs", .ref a.s), (Str.ofString "forms", .ref tb), (Str.ofString "rows", .ref rl)])) (X : (Mine.hd.heap_1 w.params).In g)
    (N : News g L h (((fl, W.listOf us.toArray n) :: R) ++ symR w a sy)) (T : Top PV LO mean mg mb g)
    (hd : dp + 40 < recursionLimit) (hu : un + 700 < cLine) (hf : FigL us) (P : SyP w a st c sy) (hc : c + 1000 < 10000) (hfar : Far ((fl, W.listOf us.toArray n) :: R) (symR w a sy))
    (hob : (tb, ob) ∈ R) (hfo : FormsO w tb ob) (hrl : (rl, W.listOf rits.toArray rn) ∈ R) (hrow : RowsIn R rits rowsS)
    (ret : ∀ h' tk' m' us' n' st' sy', FigL us' → Fr g L h' m' → News g L h' (((fl, W.listOf us'.toArray n') :: R) ++ symR w a sy') → SyP w a st' (c + 1000) sy' → Far ((fl, W.listOf us'.toArray n') :: R) (symR w a sy') →
      (∀ z, [Str.ofString "name", Str.ofString "kinds", Str.ofString "words", Str.ofString "parts", Str.ofString "kind", Str.ofString "part", Str.ofString "step", Str.ofString "told", Str.ofString "key", Str.ofString "due", Str.ofString "spoil", Str.ofString "kept"].contains z = false → m' z = kstB m [(Str.ofString "figures", .ref fl), (Str.ofString "signs", .ref a.s), (Str.ofString "forms", .ref tb), (Str.ofString "rows", .ref rl)] z) → Q .next ⟨h', gn, dr, tk', os⟩) :
    wpAny (model PG w) (({ handled := none, depth := dp, frames := some [], guards := gd, units := un } : Around).deeper (envOf nm0 lawScope L fa cd)) (execs turnBody (envOf nm0 lawScope L fa cd)) Q E ⟨h, gn, dr, tk, os⟩ := by
  refine' code_letE ?hcb ?hcs hE ?_
  case hcb => dsimp only [turnBody, stAt, lawScope, fnAt, PySem.Challenge.pw_rh0084_01, List.getD, List.getElem?_cons_succ, List.getElem?_cons_zero, Option.getD, stBody, fnScope, stParts, List.drop] <;> exact rfl
  case hcs => dsimp only [turnBody, stAt, lawScope, fnAt, PySem.Challenge.pw_rh0084_01, List.getD, List.getElem?_cons_succ, List.getElem?_cons_zero, Option.getD, stBody, fnScope, stParts, List.drop] <;> exact rfl
  intro env9 A9 hE9
  k_steps
  unfold Hold
  refine' useDrawH (by walk_at "mine om") ?k1 ?k2 ?k3 N ?k5 ?kK ?kd ?ku hf hfar.head ?_
  case k1 => k_asm
  case k2 => k_asm
  case k3 => k_asm
  case k5 => k_asm
  case kK => first | exact rfl | assumption
  case kd => ktr_room
  case ku => ktr_units
  intro i1 t1 h1 tk1 us1 n1 lo1 hi1 hf1 F1 N1
  replace N1 : News g L h1 (((fl, W.listOf us1.toArray n1) :: R) ++ symR w a sy) := N1
  have hfar1 : Far ((fl, W.listOf us1.toArray n1) :: R) (symR w a sy) := hfar.set
  (try k_fold)
  (try k_sweep)
  k_steps
  unfold Hold
  have hlen := hrow.length
  rw [rowsS_len] at hlen
  have hi1n : i1.toNat < rits.length := om_nat lo1 (hlen ▸ hi1)
  refine let_goal ?_
  intro gl_P
  obtain ⟨q, nm, ks, u1, u2, eq, hrs, hqm⟩ := hrow.get (List.getElem?_eq_getElem hi1n)
  dsimp only [gl_P]
  clear gl_P
  have N2 := news_sub N1 (mem_row hrl)
  refine sub_list N2 (.head _) lo1 (by walk_at "mine om") (x := .ref q) (by rw [← eq]; simp) ?_ (by with_unfolding_all rfl)
  clear N2
  have N3 := news_sub N1 (mem_row hqm)
  clear N1
  obtain hro := row_all _ (List.mem_of_getElem? hrs)
  have hlk := row_look _ (List.mem_of_getElem? hrs)
  k_steps
  walk_at "mine for"
  unfold Hold
  rename Fr _ _ _ _ => lF
  rename News _ _ _ _ => lN
  rename _ ∧ _ ∧ _ ∧ AllLt _ _ => lp
  rename _ ∧ _ ∧ AllLt _ _ => lw
  refine let_goal ?_
  intro gl_P
  obtain ⟨pl, wl, hpl, hwl, lN2⟩ : ∃ pl wl : Addr, pl = _ ∧ wl = _ ∧ News g L _ ((pl, W.listOf #[Value.str nm u1] 0) :: (wl, W.listOf #[Value.str nm u1] 0) :: (q, tup2 nm ks u1 u2) :: (fl, W.listOf us1.toArray n1) :: (R ++ symR w a sy)) := ⟨_, _, rfl, rfl, lN⟩
  dsimp only [gl_P]
  clear gl_P
  subst hpl hwl
  have hfar2 : Far ((pl, W.listOf #[Value.str nm u1] 0) :: (wl, W.listOf #[Value.str nm u1] 0) :: (fl, W.listOf us1.toArray n1) :: R) (symR w a sy) := by
    refine (hfar1.cons (p := wl) fun x hx => ?_).cons fun x hx => ?_
    · rcases List.mem_cons.mp hx with rfl | hx
      · exact Nat.ne_of_lt lw.2.1
      · exact AllLt.off lw.2.2 x hx
    · rcases List.mem_cons.mp hx with rfl | hx
      · exact Nat.ne_of_lt lp.1
      · rcases List.mem_cons.mp hx with rfl | hx
        · exact Nat.ne_of_lt lp.2.2.1
        · exact AllLt.off lp.2.2.2 x hx
  have lN3 : News g L _ (((fl, W.listOf us1.toArray n1) :: (wl, W.listOf #[Value.str nm u1] 0) :: (pl, W.listOf #[Value.str nm u1] 0) :: ([] ++ R)) ++ symR w a sy) := news_sub lN2 (Sub.out (by walk_at "mine sub"))
  clear lN lN2
  refine let_goal ?_
  intro gl_P
  obtain ⟨w1, w2, w3, w4, w5, w6, w7⟩ := id hro
  dsimp only [gl_P]
  clear gl_P
  dsimp only at w2 w3 w4 w5
  have hksl : ks.cps.toList.length = ks.length := by simp [Str.length]
  have hksl' : (formK nm ks).cps.toList.length = ks.cps.toList.length := by rw [hksl, ← w4]; simp [Str.length]
  refine' texts_s (σ := KiS) (fun q => ((fl, W.listOf q.us.toArray q.n) :: (wl, W.listOf q.its q.nw) :: (pl, W.listOf (Value.str nm u1 :: q.vals).toArray q.np) :: (q.own ++ R)) ++ symR w a q.sy) (fun _ => []) [Str.ofString "part", Str.ofString "told", Str.ofString "key", Str.ofString "step"]
    (fun i q => FigL q.us ∧ StrsAre q.its.toList (nm :: q.ws) ∧ LawW (ks.cps.toList.take i) ((formK nm ks).cps.toList.take i) q.ws q.r0s q.rs ∧ PartsV w q.st q.rs q.vals q.own ∧ SyP w a q.st (c + 20 * i) q.sy ∧ st.le q.st ∧ Far ((fl, W.listOf q.us.toArray q.n) :: (wl, W.listOf q.its q.nw) :: (pl, W.listOf (Value.str nm u1 :: q.vals).toArray q.np) :: (q.own ++ R)) (symR w a q.sy))
    ⟨us1, n1, #[Value.str nm u1], 0, [], 0, [], st, sy, [], [], []⟩ rfl lF lN3 (fun _ h => nomatch h) ?hinv ?turn ?done
  case hinv => exact ⟨hf1, .cons _ _ .nil, .nil, .nil, P, st.le_refl, hfar2.perm perm_d2⟩
  case turn =>
    rintro i k tk5 ⟨us2, n2, its2, nw2, vals2, np2, own2, st2, sy2, ws2, r0s2, rs2⟩ uu h2 tk2 it hki hI0 hA F2 N2
    with_reducible refine and7 hI0 fun v1 v2 v3 v4 v5 v6 v7 => ?_
    clear hI0
    (try dsimp only at *)
    clear lF lN3
    have hki' : ks.cps.toList[i]? = some k := by simpa using hki
    have hi4 : i < ks.length := by rw [← hksl]; exact (List.getElem?_eq_some_iff.mp hki').1
    refine let_goal ?_
    intro gl_P
    obtain ⟨k', hk', hcmp⟩ := cmp_get w5 hksl' hki'
    obtain ⟨it', hit, hiff⟩ := news_dedup (it := it) (news_sub N2 fun p hp => List.mem_append.mpr (.inr hp))
    dsimp only [gl_P]
    clear gl_P
    have hfarI := far_t1 (v7.more hit (ownOff_iff hA hiff))
    have l3 := v3.lens
    have htk : (List.take i ks.cps.toList).length ≤ 4 := Nat.le_trans (List.length_take_le i ks.cps.toList) (Nat.le_trans (Nat.le_of_lt hi4) w2)
    have hits : its2.size ≤ 1000 := by
      exact Nat.le_trans (Nat.le_of_eq (strsAre_size v2)) (Nat.le_trans (Nat.succ_le_succ (Nat.le_trans l3.2.2.2 (Nat.mul_le_mul_left 5 htk))) (by decide))
    have hpits : (Value.str nm u1 :: vals2).toArray.size ≤ 100 := by
      exact Nat.le_trans (Nat.succ_le_succ (Nat.le_trans (Nat.le_of_eq (v4.len.trans l3.2.2.1)) htk)) (by decide)
    obtain ⟨F3, e3⟩ := Fr.pickE (ps := [(Str.ofString "figures", .ref fl), (Str.ofString "signs", .ref a.s), (Str.ofString "words", .ref wl), (Str.ofString "parts", .ref pl), (Str.ofString "kind", .str ⟨#[k]⟩ tk5)]) F2 (List.forall_mem_cons.mpr ⟨by rfl, List.forall_mem_cons.mpr ⟨by rfl, List.forall_mem_cons.mpr ⟨by rfl, List.forall_mem_cons.mpr ⟨by rfl, List.forall_mem_cons.mpr ⟨by rfl, fun _ h => nomatch h⟩⟩⟩⟩⟩)
    refine' kind_turn w mean mg mb dp un gd [] base g h2 nm0 L fa cd _ a st2 (c + 20 * i) sy2 fl wl pl us2 n2 its2 nw2 _ np2 (own2 ++ (R ++ it')) k k' tk5 gn dr tk2 os _ _ (w3 k (List.mem_of_getElem? hki')) hcmp hE B F3 X (news_sub N2 (mem_t1 hiff)) T (by walk_at "mine om") (by walk_at "mine om") v1 hits hpits v5 (by walk_at "mine om") hfarI ?kr
    case kr =>
      intro h' tk' m' us' n' its' nw' np' v own gr r0 r st' sy' hf' F' N' hs' G hv' P' le' far' hz
      rw [List.push_toArray] at N' far'
      refine TurnS.next (⟨us', n', its', nw', vals2 ++ [v], np', own ++ own2, st', sy', ws2 ++ gr, r0s2 ++ [r0], rs2 ++ [r]⟩ : KiS) F' N' (mem_t2 hiff) ?_ ?_ (fun _ h => nomatch h) ?_
      · exact ownOff_iff (Far.own (far_t2 far')) fun p => (hiff p).symm
      · refine ⟨hf', hs' _ v2, ?_, .snoc (v4.le le') hv', P'.more (Nat.le_of_eq om_mus), SymSt.le_trans v6 le', (far_t2 far').left⟩
        rw [List.take_add_one, List.take_add_one, hki', hk']
        exact .snoc v3 G
      · intro z h1 h2 h3
        rw [hz z (ne_cont h3 (by walk_at "mine mem1")) (ne_cont h3 (by walk_at "mine mem1")) (ne_cont h3 (by walk_at "mine mem1")) (ne_cont h3 (by walk_at "mine mem1")), e3]
        first
          | ((repeat (refine Eq.trans (if_neg (by first | exact h1 | exact ne_cont h3 (by walk_at "mine mem1") | exact h2 _ (.head _) | exact h2 _ (.tail _ (.head _)) | exact h2 _ (.tail _ (.tail _ (.head _))) | exact Bool.eq_false_iff.mp h3)) ?_)); exact rfl)
          | (simp only [List.contains_cons, List.contains_nil, Bool.or_false, Bool.or_eq_false_iff, beq_eq_false_iff_ne, ne_eq] at h3; simp [h1, h3, kstB])
  case done =>
    rintro ⟨us2, n2, its2, nw2, vals2, np2, own2, st2, sy2, ws2, r0s2, rs2⟩ uu h2 tk2 hI0 F2 N2
    with_reducible refine and7 hI0 fun v1 v2 v3 v4 v5 v6 v7 => ?_
    clear hI0
    (try dsimp only at *)
    clear lF lN3
    have hsz : ks.cps.size = ks.length := rfl
    rw [List.take_of_length_le (by first | walk_at "mine mem1" | simp), List.take_of_length_le (by rw [hksl']; simp)] at v3
    k_steps
    unfold Hold
    rename Fr _ _ _ _ => F9
    rename News _ _ _ _ => N9
    obtain ⟨F8, e8⟩ := Fr.pickE (ps := [(Str.ofString "figures", .ref fl), (Str.ofString "signs", .ref a.s), (Str.ofString "words", .ref wl), (Str.ofString "parts", .ref pl), (Str.ofString "forms", .ref tb), (Str.ofString "name", .str nm u1), (Str.ofString "kinds", .str ks u2)]) F9 (List.forall_mem_cons.mpr ⟨by rfl, List.forall_mem_cons.mpr ⟨by rfl, List.forall_mem_cons.mpr ⟨by rfl, List.forall_mem_cons.mpr ⟨by rfl, List.forall_mem_cons.mpr ⟨by rfl, List.forall_mem_cons.mpr ⟨by rfl, List.forall_mem_cons.mpr ⟨by rfl, fun _ h => nomatch h⟩⟩⟩⟩⟩⟩⟩)
    refine' turn_tail w mean mg mb dp un gd base g _ nm0 L fa cd _ a st2 (c + 20 * ks.cps.size) sy2 fl wl pl tb ob us2 n2 its2 nw2 np2 R own2 nm ks (formK nm ks) ws2 r0s2 rs2 vals2 u1 u2 u1 gn dr _ os _ _ hE B XB TB F8 X N9 T hd hu v1 v2 v5 (by walk_at "mine om") v7 hob hfo hro rfl hlk v3 v4 ?kr
    case kr =>
      intro h' tk' m' us' n' st' sy' hf' F' N' P' le' far' hz
      k_steps
      refine ret _ _ _ us' n' st' sy' hf' F' N' (P'.more (by walk_at "mine om")) far' fun z hz2 => ?_
      simp only [List.contains_cons, List.contains_nil, Bool.or_false, Bool.or_eq_false_iff, beq_eq_false_iff_ne, ne_eq] at hz2
      refine let_goal ?_
      intro gl_P
      obtain ⟨z1, z2, z3, z4, z5, z6, z7, z8, z9, z10, z11, z12⟩ := hz2
      dsimp only [gl_P]
      clear gl_P
      rw [hz z z12 z10 z11, e8]
      simp [z1, z2, z3, z4, z5, z6, z7, z8, z9, kstB]
end
section
theorem words_J53 : True := by
  k_with "J53 call ref" => ((with_reducible show wpAny _ _ (call (Value.ref 89) _) _ _ _); refine Hold.in ?_)
  k_with "J53 call ref" => ((with_reducible show wpAny _ _ (call (Value.ref 110) _) _ _ _); refine Hold.in ?_)
  k_with "J53 exec For Name Call nil nil" => refine Hold.in ?_
  k_with "J53 call ref" => ((with_reducible show wpAny _ _ (call (Value.ref 61) _) _ _ _); refine Hold.in ?_)
  k_with "J53 call ref" => ((with_reducible show wpAny _ _ (call (Value.ref 68) _) _ _ _); refine Hold.in ?_)
  trivial
local macro_rules | `(tactic| walk_at $s) => fwd "J53 " s
theorem off_SI1 : True := by
  w_top off
  trivial
theorem init_tail (w mean mg mb) (dp un : Nat) (gd : Option (List Code)) (fr : List Env) (base g h : Heap) (nm0 : Str) (L fa : Addr) (cd : Value) (m : Str → Option Value) (a : SymA) (st : SymSt) (c : Nat) (sy R : List (Addr × Obj)) (gn : Array GenState) (dr : Drawn) (tk : Nat) (os : OsState) (Q : Flow → Shared → Prop) (E : Value → Shared → Prop)
    (hE : PassesOwn (model PG w) (({ handled := none, depth := dp, frames := some fr, guards := gd, units := un } : Around).deeper (envOf nm0 initScope L fa cd)) (envOf nm0 initScope L fa cd) E)
    (B : Below { handled := none, depth := dp, frames := some fr, guards := gd, units := un } base fr g)
    (F : Fr g L h (kstB m [(Str.ofString "self", .ref a.s)])) (X : (Mine.hd.heap_1 w.params).In g)
    (N : News g L h (symR w a sy ++ R)) (hR : ∀ x ∈ R, ∀ y ∈ symR w a sy, y.1 ≠ x.1) (T : Top PV LO mean mg mb g)
    (hd : dp + 20 < recursionLimit) (hu : un + 200 < cLine) (P : SyP w a st c sy) (hc : c + 200 < 10000)
    (ret : ∀ h' tk' m' st' sy', Fr g L h' m' → News g L h' (symR w a sy' ++ R) → (∀ x ∈ R, ∀ y ∈ symR w a sy', y.1 ≠ x.1) → SyP w a st' (c + 100) sy' → Q .next ⟨h', gn, dr, tk', os⟩) :
    wpAny (model PG w) (({ handled := none, depth := dp, frames := some fr, guards := gd, units := un } : Around).deeper (envOf nm0 initScope L fa cd)) (execs initTail (envOf nm0 initScope L fa cd)) Q E ⟨h, gn, dr, tk, os⟩ := by
  refine' code_letE ?hcb ?hcs hE ?_
  case hcb => dsimp only [initTail, initScope, initFn, stAt, fnAt, PySem.Challenge.pw_rh0084_01, List.getD, List.getElem?_cons_succ, List.getElem?_cons_zero, Option.getD, stBody, fnScope, stParts, List.drop] <;> exact rfl
  case hcs => dsimp only [initTail, initScope, initFn, stAt, fnAt, PySem.Challenge.pw_rh0084_01, List.getD, List.getElem?_cons_succ, List.getElem?_cons_zero, Option.getD, stBody, fnScope, stParts, List.drop] <;> exact rfl
  intro env9 A9 hE9
  obtain ⟨as, ad, a1, a2, a3, a4, k1, k2, k3, k4⟩ := a
  dsimp only [symR, symI, symJ] at N F
  k_steps
  walk_at "mine for"
  unfold Hold
  dsimp only [List.nil_append]
  refine' useNew (fixed_atoms_new w mean mg mb) ?k1 ?k2 ?k3 N ?k5 ?kK ?kd ?ku trivial ?_
  case k1 => k_asm
  case k2 => k_asm
  case k3 => k_asm
  case k5 => k_asm
  case kK => first | exact rfl | assumption
  case kd => ktr_room
  case ku => ktr_units
  intro v new h1 tk1 q0 F1 N1 o1
  refine let_goal ?_
  intro gl_P
  obtain ⟨p, vs, eq0, hS, eq1⟩ := q0
  dsimp only [gl_P]
  clear gl_P
  subst eq0 eq1
  (try k_fold)
  (try k_sweep)
  k_steps
  unfold Hold
  rename Fr _ _ _ _ => lF
  rename News _ _ _ _ => lN
  refine' tuple_s (σ := SiS) (l := p) (vs := vs.toArray) (fun q => symR w ⟨as, ad, a1, a2, a3, a4, k1, k2, k3, k4⟩ q.sy ++ R) (fun _ => []) [] (fun i q => SyP w ⟨as, ad, a1, a2, a3, a4, k1, k2, k3, k4⟩ q.st (c + i) q.sy ∧ (∀ x ∈ R, ∀ y ∈ symR w ⟨as, ad, a1, a2, a3, a4, k1, k2, k3, k4⟩ q.sy, y.1 ≠ x.1)) ⟨st, sy⟩ rfl ⟨_, (lN _ (.head _)).1, rfl, _, rfl⟩ (lN _ (.head _)).2.1 (fun q hq => Ne.symm (o1 q hq _ (.head _))) lF (news_tl lN) (fun _ h => nomatch h) ⟨P, hR⟩ ?turn ?done
  case turn =>
    rintro i v ⟨st2, sy2⟩ uu h2 tk2 it hv ⟨P2, hap⟩ hA hT F2 N2
    dsimp only [symR, symI, symJ] at *
    clear lF lN
    obtain ⟨x, tx, hx, rfl⟩ := strsAre_at hS (by simpa using hv)
    have hi29 : i < 29 := (List.getElem?_eq_some_iff.mp hx).1
    k_steps
    unfold Hold
    have hoff : ∀ q ∈ R ++ it, ∀ p ∈ symR w ⟨as, ad, a1, a2, a3, a4, k1, k2, k3, k4⟩ sy2, p.1 ≠ q.1 := fun q hq p hp => by
      rcases List.mem_append.mp hq with hq | hq
      · exact hap q hq p hp
      · exact fun e => hA q hq p.1 (List.mem_map.mpr ⟨p, List.mem_append.mpr (.inl hp), rfl⟩) e.symm
    refine' Spec.useSy (R := R ++ it) P2 (atom_spec w mean mg mb ⟨as, ad, a1, a2, a3, a4, k1, k2, k3, k4⟩ st2 (c + i) sy2 x tx) ?k1 ?k2 ?k3 (news_sub N2 ?kn) ?k5 ?kK ?kd ?ku (by walk_at "mine om") hoff ?_
    case kn =>
      intro p hp
      show p ∈ (symR w ⟨as, ad, a1, a2, a3, a4, k1, k2, k3, k4⟩ sy2 ++ R) ++ it
      rcases List.mem_append.mp hp with hp | hp
      · rcases List.mem_append.mp hp with hp | hp
        · exact List.mem_append.mpr (.inl (List.mem_append.mpr (.inr hp)))
        · exact List.mem_append.mpr (.inr hp)
      · exact List.mem_append.mpr (.inl (List.mem_append.mpr (.inl hp)))
    case k1 => k_asm
    case k2 => k_asm
    case k3 => k_asm
    case k5 => k_asm
    case kK => first | exact rfl | assumption
    case kd => ktr_room
    case ku => ktr_units
    intro v9 h9 tk9 st9 sy9 q9 P9 F9 N9 O9
    (try k_fold)
    (try k_sweep)
    k_steps
    have oA := offs_all (own := []) hoff O9 (fun _ _ _ h => nomatch h)
    refine TurnS.next (⟨st9, sy9⟩ : SiS) (by assumption) N9 ?_ ?_ ⟨P9, fun x hx y hy => oA x (List.mem_append.mpr (.inl hx)) y hy⟩ (fun _ h => nomatch h) (by walk_at "mine same")
    · intro p hp
      have hp' : p ∈ (symR w ⟨as, ad, a1, a2, a3, a4, k1, k2, k3, k4⟩ sy9 ++ R) ++ it := hp
      rcases List.mem_append.mp hp' with hp | hp
      · rcases List.mem_append.mp hp with hp | hp
        · exact List.mem_append.mpr (.inr hp)
        · exact List.mem_append.mpr (.inl (List.mem_append.mpr (.inl hp)))
      · exact List.mem_append.mpr (.inl (List.mem_append.mpr (.inr hp)))
    · intro q hq b hb
      have hb' : b ∈ (symR w ⟨as, ad, a1, a2, a3, a4, k1, k2, k3, k4⟩ sy9 ++ R).map (·.1) := hb
      rw [List.map_append] at hb'
      rcases List.mem_append.mp hb' with hb | hb
      · obtain ⟨p', hp', rfl⟩ := List.mem_map.mp hb
        exact fun e => oA q (List.mem_append.mpr (.inr hq)) p' hp' e.symm
      · refine hA q hq b ?_
        show b ∈ (symR w ⟨as, ad, a1, a2, a3, a4, k1, k2, k3, k4⟩ sy2 ++ R).map (·.1)
        rw [List.map_append]; exact List.mem_append.mpr (.inr hb)
  case done =>
    rintro ⟨st2, sy2⟩ uu h2 tk2 ⟨P2, hap2⟩ F2 N2
    dsimp only [symR, symI, symJ] at *
    clear lF lN
    have e29 : vs.toArray.size = 29 := by rw [List.size_toArray]; exact hS.length
    rw [e29] at P2
    k_steps
    walk_at "mine for"
    unfold Hold
    dsimp only [List.nil_append]
    refine' useNew (fixed_functors_new w mean mg mb) ?k1 ?k2 ?k3 N2 ?k5 ?kK ?kd ?ku trivial ?_
    case k1 => k_asm
    case k2 => k_asm
    case k3 => k_asm
    case k5 => k_asm
    case kK => first | exact rfl | assumption
    case kd => ktr_room
    case ku => ktr_units
    intro v new h3 tk3 q0 F3 N3 o3
    refine let_goal ?_
    intro gl_P
    obtain ⟨p2, vs2, own, eq0, hS2, eq1⟩ := q0
    dsimp only [gl_P]
    clear gl_P
    subst eq0 eq1
    (try k_fold)
    (try k_sweep)
    k_steps
    unfold Hold
    rename Fr _ _ _ _ => lF
    rename News _ _ _ _ => lN
    have hvl := hS2.length
    have hS3 := hS2.clean lN (.head _) (fun q hq => List.mem_append.mpr (.inl (.tail _ hq))) hvl
    replace hS3 := hS3.sub (fz' := own.filter (fun q => q.1 != p2) ++ R) fun q hq => List.mem_append.mpr (.inl hq)
    have hof : ∀ q ∈ own.filter (fun q => q.1 != p2) ++ R, q.1 ≠ p2 := fun q hq => by
      rcases List.mem_append.mp hq with hq | hq
      · simpa using (List.mem_filter.mp hq).2
      · exact Ne.symm (o3 q (List.mem_append.mpr (.inr hq)) _ (.head _))
    have hsub : ∀ q ∈ own.filter (fun q => q.1 != p2) ++ R, q ∈ own ++ R := fun q hq => by
      rcases List.mem_append.mp hq with hq | hq
      · exact List.mem_append.mpr (.inl (List.mem_filter.mp hq).1)
      · exact List.mem_append.mpr (.inr hq)
    have hRz : ∀ q ∈ R, q ∈ own.filter (fun q => q.1 != p2) ++ R := fun q hq => List.mem_append.mpr (.inr hq)
    generalize own.filter (fun q => q.1 != p2) ++ R = fz at hS3 hof hsub hRz
    refine' tuple_s (σ := SiS) (l := p2) (vs := vs2.toArray) (fun q => symR w ⟨as, ad, a1, a2, a3, a4, k1, k2, k3, k4⟩ q.sy ++ fz) (fun _ => []) [] (fun i q => SyP w ⟨as, ad, a1, a2, a3, a4, k1, k2, k3, k4⟩ q.st (c + 29 + 2 * i) q.sy ∧ (∀ x ∈ fz, ∀ y ∈ symR w ⟨as, ad, a1, a2, a3, a4, k1, k2, k3, k4⟩ q.sy, y.1 ≠ x.1)) ⟨st2, sy2⟩ rfl ⟨_, (lN _ (.head _)).1, rfl, _, rfl⟩ (lN _ (.head _)).2.1 ?hlN lF (news_sub lN ?hsb) (fun _ h => nomatch h) ⟨P2, ?hap⟩ ?turn2 ?done2
    case hlN =>
      intro q hq
      rcases List.mem_append.mp hq with hq | hq
      · exact Ne.symm (o3 q (List.mem_append.mpr (.inl hq)) _ (.head _))
      · exact hof q hq
    case hsb =>
      intro q hq
      rcases List.mem_append.mp hq with hq | hq
      · exact List.mem_append.mpr (.inr (List.mem_append.mpr (.inl hq)))
      · rcases List.mem_append.mp (hsub q hq) with hq | hq
        · exact List.mem_append.mpr (.inl (.tail _ hq))
        · exact List.mem_append.mpr (.inr (List.mem_append.mpr (.inr hq)))
    case hap =>
      intro x hx y hy
      rcases List.mem_append.mp (hsub x hx) with hx | hx
      · exact fun e => o3 y (List.mem_append.mpr (.inl hy)) x (.tail _ hx) e.symm
      · exact hap2 x hx y hy
    case turn2 =>
      rintro i v ⟨st4, sy4⟩ uu h4 tk4 it hv ⟨P4, hap⟩ hA hT F4 N4
      dsimp only [symR, symI, symJ] at *
      clear lF lN
      obtain ⟨q, x, j, t1, t2, rfl, hm⟩ := hS3.get (by simpa using hv)
      have hi32 : i < 32 := by rw [← hvl]; exact (List.getElem?_eq_some_iff.mp (show vs2[i]? = some (.ref q) by simpa using hv)).1
      have N5 : News g L h4 ((q, regObj x j t1 t2) :: (as, instObj 155 ad) :: (ad, dictOf (symE w a1 a2 a3 a4 k1 k2 k3 k4) 4) :: (sy4 ++ (fz ++ it))) := fun p hp => by
        rcases List.mem_cons.mp hp with h | hp
        · exact N4 p (List.mem_append.mpr (.inl (List.mem_append.mpr (.inr (h ▸ hm)))))
        · exact N4 p (Sub.out (by walk_at "mine sub") p hp)
      k_steps
      unfold Hold
      have hoff : ∀ q ∈ fz ++ it, ∀ p ∈ symR w ⟨as, ad, a1, a2, a3, a4, k1, k2, k3, k4⟩ sy4, p.1 ≠ q.1 := fun q hq p hp => by
        rcases List.mem_append.mp hq with hq | hq
        · exact hap q hq p hp
        · exact fun e => hA q hq p.1 (List.mem_map.mpr ⟨p, List.mem_append.mpr (.inl hp), rfl⟩) e.symm
      refine' Spec.useOh (R := fz ++ it) (func_spec w mean mg mb ⟨as, ad, a1, a2, a3, a4, k1, k2, k3, k4⟩ st4 (c + 29 + 2 * i) sy4 x j t1 t2) (fun _ _ _ z => SyPost.toO z) ?k1 ?k2 ?k3 (news_sub N5 ?kn) ?k5 ?kK ?kd ?ku ⟨P4, by walk_at "mine om"⟩ hoff ?_ ?kth
      case k1 => k_asm
      case k2 => k_asm
      case k3 => k_asm
      case k5 => k_asm
      case kK => first | exact rfl | assumption
      case kd => ktr_room
      case ku => ktr_units
      case kn =>
        exact Sub.out (by walk_at "mine sub")
      case kth => exact fun _ _ _ x => x.no
      intro v9 h9 tk9 own9 st9 sy9 q9 P9 F9 N9 O9 D9 S9
      obtain ⟨rfl, i9, n9, t9, rfl, _⟩ := q9
      have oA := offs_all hoff O9 D9
      (try k_fold)
      (try k_sweep)
      k_steps
      refine TurnS.next (⟨st9, sy9⟩ : SiS) (by assumption) N9 ?_ ?_ ⟨P9, fun x hx y hy => oA x (List.mem_append.mpr (.inl hx)) y (List.mem_append.mpr (.inr hy))⟩ (fun _ h => nomatch h) (by walk_at "mine same")
      · intro p hp
        have hp' : p ∈ (symR w ⟨as, ad, a1, a2, a3, a4, k1, k2, k3, k4⟩ sy9 ++ fz) ++ it := hp
        rcases List.mem_append.mp hp' with hp | hp
        · rcases List.mem_append.mp hp with hp | hp
          · exact List.mem_append.mpr (.inr hp)
          · exact List.mem_append.mpr (.inl (List.mem_append.mpr (.inl hp)))
        · exact List.mem_append.mpr (.inl (List.mem_append.mpr (.inr hp)))
      · intro q hq b hb
        have hb' : b ∈ (symR w ⟨as, ad, a1, a2, a3, a4, k1, k2, k3, k4⟩ sy9 ++ fz).map (·.1) := hb
        rw [List.map_append] at hb'
        rcases List.mem_append.mp hb' with hb | hb
        · obtain ⟨p', hp', rfl⟩ := List.mem_map.mp hb
          exact fun e => oA q (List.mem_append.mpr (.inr hq)) p' (List.mem_append.mpr (.inr hp')) e.symm
        · refine hA q hq b ?_
          show b ∈ (symR w ⟨as, ad, a1, a2, a3, a4, k1, k2, k3, k4⟩ sy4 ++ fz).map (·.1)
          rw [List.map_append]; exact List.mem_append.mpr (.inr hb)
    case done2 =>
      rintro ⟨st4, sy4⟩ uu h4 tk4 ⟨P4, hap⟩ F4 N4
      dsimp only [symR, symI, symJ] at *
      clear lF lN
      have e32 : vs2.toArray.size = 32 := by rw [List.size_toArray]; exact hvl
      rw [e32] at P4
      have N6 : News g L h4 ((as, instObj 155 ad) :: (ad, dictOf (symE w a1 a2 a3 a4 k1 k2 k3 k4) 4) :: (sy4 ++ R)) := news_sub N4 fun p hp => by
        simp only [List.mem_cons, List.mem_append] at hp ⊢
        rcases hp with h | h | h | h
        · simp [h]
        · simp [h]
        · simp [h]
        · simp [hRz p h]
      clear N4
      k_steps
      exact ret _ _ _ st4 sy4 (by assumption) (by assumption) (fun x hx y hy => hap x (hRz x hx) y hy) (P4.more (by walk_at "mine om"))
end
end
end
end
end
end
section
theorem words_J54 : True := by
  k_with "J54 size_fits" => first | ((with_reducible show Array.size (List.toArray _) ≤ _); k_dflt (exact Nat.le_of_ble_eq_true rfl)) | ((with_reducible show List.length (_ :: _) ≤ _); k_dflt (exact Nat.le_of_ble_eq_true rfl)) | ((with_reducible show Str.length _ + Str.length _ ≤ _); (with_reducible refine om_le (Nat.add_le_add ?a_J54_1 ?b_J54_1) ?c_J54_1); (case a_J54_1 => walk_at "mine len"); (case b_J54_1 => walk_at "mine len"); (case c_J54_1 => k_dflt (exact rfl))) | walk_at "mine cheap"
  k_with "J54 leave1" => first | with_reducible refine KExecs.next (by assumption) ?_ | with_reducible refine KExecs.ret (by assumption) ?_ | with_reducible refine KExecs.brk (by assumption) ?_ | with_reducible refine KExecs.cont (by assumption) ?_ | with_reducible refine KEnds.ret (by assumption) ?_ | with_reducible refine KEnds.next (by assumption) ?_ | with_reducible refine KFlies.go (by assumption) ?_ | with_reducible exact AnyV.go (by assumption) | ((with_reducible refine Post2.go (by assumption) ?_); (try dsimp only))
  k_with "J54 le" => first | ((with_reducible show Array.size (List.toArray _) ≤ _); k_dflt (exact Nat.le_of_ble_eq_true rfl)) | ((with_reducible show List.length (_ :: _) ≤ _); k_dflt (exact Nat.le_of_ble_eq_true rfl)) | walk_at "mine cheap"
  k_with "J54 lt" => walk_at "mine cheap"
  k_with "J54 execs cons" => first | (with_reducible refine execs_oneT (by assumption) fun tke_w => ?_) | (with_reducible refine execs_consT (by assumption) fun tke_w Qe_w hHe_w hQe_w => ?_) | with_reducible refine execs_oneV (by assumption) ?_ | (with_reducible refine execs_consV (by assumption) fun Qe_w hHe_w hQe_w => ?_) | (with_reducible refine gen_postH fun Qe_w hHe_w hQe_w => ?_)
  trivial
local macro_rules | `(tactic| k_ne) => `(tactic| walk_at "mine ne")
local macro_rules | `(tactic| size_fits) => fwd1 "J54 size_fits"
local macro_rules | `(tactic| l_fit) => `(tactic| walk_at "mine cheap")
local macro_rules | `(tactic| leave1) => fwd1 "J54 leave1"
local macro_rules | `(tactic| walk_at $s) => fwd "J54 " s
theorem off_TOP1 : True := by
  w_top off
  trivial
section
theorem gl_names : namesOk Mine.hd.view_39 (looseW Mine.hd.view_39 [Str.ofString "LinkFault"]) (namesW Mine.hd.view_39 [Str.ofString "LinkFault"]) = true := by
  rw [PySem.W.Fast.te17448422675489707002, PySem.W.Fast.te821141287760084731]; kernel_rfl
theorem gl_imports : PyProof.Rows.importsNone Mine.hd.view_39 = true := by
  rw [PySem.W.Fast.te2458874890965802552]; kernel_rfl
theorem law_figures_new (w mean mg mb) (l : Addr) (us : List Value) (ns : List Int) (hI : IntsAre us ns) (hz : us.length ≤ 63) : Spec w mean mg mb 390 [.ref l] [] 8 100 (fun h => h.IsList l us.toArray) (fun h h' v => ∃ new, (∃ p us' n, v = .ref p ∧ FigL us' ∧ new = [(p, W.listOf us'.toArray n)]) ∧ Led h h' [] new) NoExc :=
  (law_figures_spec w mean mg mb l us ns hI hz).post_mono fun _ _ _ x => by obtain ⟨p, us', n, e, h1, h2⟩ := x; exact ⟨_, ⟨p, us', n, e, h1, rfl⟩, h2⟩
theorem law_rows_new (w mean mg mb) : Spec w mean mg mb 404 [] [] 8 100 NoPre (fun h h' v => ∃ new, (∃ p its n own, v = .ref p ∧ RowsIn own its rowsS ∧ new = (p, W.listOf its.toArray n) :: own) ∧ Led h h' [] new) NoExc :=
  (law_rows_spec w mean mg mb).post_mono fun _ _ _ x => by obtain ⟨p, its, n, own, e, h1, h2⟩ := x; exact ⟨_, ⟨p, its, n, own, e, h1, rfl⟩, h2⟩
theorem shapes_new (w mean mg mb) : Spec w mean mg mb 208 [] [] 4 60 NoPre (fun h h' v => ∃ new, (∃ d ob, v = .ref d ∧ FormsO w d ob ∧ new = [(d, ob)]) ∧ Led h h' [] new) NoExc :=
  (shapes_spec w mean mg mb).post_mono fun h h' v x => by
    obtain ⟨d, e, hn, lo, kvs, hd, hf⟩ := x
    obtain ⟨o, ho, r⟩ := Heap.dictOf_iff.mp hd
    exact ⟨[(d, o)], ⟨d, o, e, ⟨lo, kvs, r, hf⟩, rfl⟩, fun p hp => by rw [List.mem_singleton.mp hp]; exact ⟨ho, .inl hn⟩⟩
theorem sym_made {w : World} {g h : Heap} {L x d a1 a2 a3 a4 : Addr} {o2 o4 : Obj} {k1 k2 k3 k4 : Tok} {R : List (Addr × Obj)} (N : News g L h ((a4, o4) :: (a3, W.listOf #[] 0) :: (a2, o2) :: (a1, W.listOf #[] 0) :: (x, instObj 155 d) :: (d, dictOf (symE w a1 a2 a3 a4 k1 k2 k3 k4) 4) :: R)) (lo2 : (a2 == sysModules) = false) (lo4 : (a4 == sysModules) = false) (hs2 : o2.IsDictOf (PySem.strKind PG w) []) (hi4 : o4.IsDictOf (intKind PG w) [])
    (q0 : @LT.lt Nat _ d x) (q1 : x < a1 ∧ d < a1 ∧ AllLt a1 R) (q2 : a1 < a2 ∧ x < a2 ∧ d < a2 ∧ AllLt a2 R) (q3 : a2 < a3 ∧ a1 < a3 ∧ x < a3 ∧ d < a3 ∧ AllLt a3 R) (q4 : a3 < a4 ∧ a2 < a4 ∧ a1 < a4 ∧ x < a4 ∧ d < a4 ∧ AllLt a4 R) (qd : ∀ p ∈ R, p.1 < d) :
    ∃ (a : SymA) (sy : List (Addr × Obj)), a.s = x ∧ SyP w a ⟨[], []⟩ 0 sy ∧ News g L h (symR w a sy ++ R) ∧ ∀ z ∈ R, ∀ y ∈ symR w a sy, y.1 ≠ z.1 := by
  refine let_goal ?_
  intro gl_P
  obtain ⟨es, ep, hc4, hd4, _, hp4, _⟩ := hi4
  dsimp only [gl_P]
  clear gl_P
  have he4 : es.toList = [] := List.length_eq_zero_iff.mp hp4.length
  refine ⟨⟨x, d, a1, a2, a3, a4, k1, k2, k3, k4⟩, [(a1, W.listOf #[] 0), (a2, o2), (a3, W.listOf #[] 0), (a4, o4)], rfl, ⟨_, _, _, _, [], rfl, ?_⟩, ?_, ?_⟩
  · exact {
      low2 := lo2
      low4 := lo4
      nod := by
        simp only [SymA.l, List.nodup_cons, List.mem_cons, List.not_mem_nil, or_false, not_or, not_false_eq_true, and_true, List.nodup_nil]
        have e1 : @LT.lt Nat _ d x := q0
        have e2 : @LT.lt Nat _ x a1 := q1.1
        have e3 : @LT.lt Nat _ a1 a2 := q2.1
        have e4 : @LT.lt Nat _ a2 a3 := q3.1
        have e5 : @LT.lt Nat _ a3 a4 := q4.1
        refine ⟨⟨?_, ?_, ?_, ?_, ?_⟩, ⟨?_, ?_, ?_, ?_⟩, ⟨?_, ?_, ?_⟩, ⟨?_, ?_⟩, ?_⟩ <;> (show ¬@Eq Nat _ _; walk_at "mine om")
      off := fun _ h => nomatch h
      texts := ⟨#[], 0, rfl, .nil⟩
      atoms := ⟨[], hs2, .nil⟩
      funs := ⟨#[], 0, rfl, rfl, (fun i f h => by simp at h)⟩
      nums := ⟨es, ep, [], hc4, hd4, he4, (fun _ h => nomatch h), rfl, (fun i x h => by simp at h)⟩
      nodT := List.nodup_nil
      nodF := List.nodup_nil
      lenT := Nat.le_refl _
      lenF := Nat.le_refl _ }
  · refine news_sub N (Sub.out ?_)
    dsimp only [symR, symI, symJ]
    walk_at "mine sub"
  · intro z hz y hy
    simp only [symR, symI, symJ, List.mem_cons, List.not_mem_nil, or_false] at hy
    have e0 := qd z hz
    rcases hy with rfl | rfl | rfl | rfl | rfl | rfl
    · exact Ne.symm (Nat.ne_of_lt (Nat.lt_trans e0 q0))
    · exact Ne.symm (Nat.ne_of_lt e0)
    · exact Ne.symm (AllLt.off q1.2.2 z hz)
    · exact Ne.symm (AllLt.off q2.2.2.2 z hz)
    · exact Ne.symm (AllLt.off q3.2.2.2.2 z hz)
    · exact Ne.symm (AllLt.off q4.2.2.2.2.2 z hz)
structure LwS where
  us : List Value
  n : Nat
  st : SymSt
  sy : List (Addr × Obj)
section
variable {x : Addr × Obj} {R S it it' : List (Addr × Obj)}
theorem mem_w1 (hi : ∀ p, p ∈ it ↔ p ∈ it') : ∀ q ∈ (x :: (R ++ it')) ++ S, q ∈ ((x :: R) ++ S) ++ it := by
  have s1 : Sub it' it := fun p h => (hi p).mpr h
  exact Sub.out (by walk_at "mine sub")
theorem mem_w2 (hi : ∀ p, p ∈ it ↔ p ∈ it') : ∀ q ∈ ((x :: R) ++ S) ++ it, q ∈ (x :: (R ++ it')) ++ S := by
  have s1 : Sub it it' := fun p h => (hi p).mp h
  exact Sub.out (by walk_at "mine sub")
theorem far_w1 (h : Far ((x :: R) ++ it) S) : Far (x :: (R ++ it)) S := h
theorem far_w2 (h : Far (x :: (R ++ it)) S) : Far ((x :: R) ++ it) S := h
end
theorem words_J55 : True := by
  k_with "J55 mine for" => (unfold Hold; (rename Fr _ _ _ _ => lF_w); (with_unfolding_all refine' For_invVF lF_w ?k1_J55_0 ?k2_J55_0 ?_; (case k1_J55_0 => exact rfl); (case k2_J55_0 => exact rfl)); k_steps)
  k_with "J55 mine same" => (intro z_w h1_w h2_w h3_w; (try simp only [List.contains_cons, List.contains_nil, Bool.or_false, Bool.or_eq_false_iff, beq_eq_false_iff_ne, ne_eq] at h3_w); (try simp only [List.forall_mem_cons, List.not_mem_nil, false_implies, implies_true, and_true, ne_eq] at h2_w); first | (simp [h1_w, kstB]; done) | (simp [h1_w, h2_w, kstB]; done) | (simp [h1_w, h3_w, kstB]; done) | (simp [h1_w, h2_w, h3_w, kstB]; done))
  k_with "J55 TurnS" => ((first | with_reducible refine TurnS.ret ?_ | with_reducible refine TurnS.brk ?_); (try dsimp only))
  k_with "J55 call ref" => ((with_reducible show wpAny _ _ (call (Value.ref 390) _) _ _ _); refine Hold.in ?_)
  k_with "J55 call ref" => ((with_reducible show wpAny _ _ (call (Value.ref 397) _) _ _ _); refine Hold.in ?_)
  k_with "J55 call ref" => ((with_reducible show wpAny _ _ (call (Value.ref 208) _) _ _ _); refine Hold.in ?_)
  k_with "J55 call ref" => ((with_reducible show wpAny _ _ (call (Value.ref 404) _) _ _ _); refine Hold.in ?_)
  k_with "J55 exec For Name Call cons nil" => refine Hold.in ?_
  k_with "J55 pyIter ref" => refine Hold.in ?_
  k_with "J55 execs cons" => ((with_reducible show wpAny _ _ (execs (Stmt.For (Expr.Name (Str.ofString "text") _) _ _ _ _ :: _) _) _ _ _); refine Hold.in ?_)
  trivial
local macro_rules | `(tactic| walk_at $s) => fwd "J55 " s
set_option maxHeartbeats 8000000 in
theorem law_holds : PySem.Challenge.rw_rh0084_01.Holds := by
  refine hd ?_
  k_fill
  intro w s₀ s₁ mg mb G Y fa o pm cd doc dV kV ho hd hcd hD hmg hg args vals as hpre hlay hrd hwl hlo
  have KX := kIn_of Y
  have X := (Ground.X G).1
  have V := (Ground.X G).2
  have GL := glob_more (Ground.glob G gl_names gl_imports) V
  refine Ground.open G ?_
  intro T B D TE TW
  try (refine guard_noD D (by decide +kernel) ?_; clear D)
  obtain ⟨_, _, M⟩ := bmod_of_top T
  have TA := at_of_top T
  try (obtain ⟨_, _, he, B0⟩ := based_of_top T rfl hmg ho hd; have he' : cd = _ := he; subst he'; clear he)
  clear hmg
  wrow_args hpre hlay hrd hwl hlo
  all_goals (
    first | refine callC_kw (enter_call ?_) | refine enter_call ?_ | refine callC_kw (enter_callW ?_) | refine enter_callW ?_ | w_how
    w_top on
    try refine codeAny_mono ?_ (fun _ _ g => GoodW.toG g)
    have K0 := below_caller (Top.heap T)
    w_call any ho hd hcd hD T F
    clear hd TA
    k_drop
    skip)
  (all_goals try k_fold)
  k_steps
  unfold Hold
  rename News _ _ _ _ => N0
  rename Fr _ _ _ _ => F0
  rename IntsAre _ _ => hI0
  rename World => w
  rename Heap.IsList _ _ _ => hL0
  have hlen0 := hI0.length
  refine' useNew (law_figures_new _ _ _ _ _ _ _ hI0 ?hz) ?kB F0 ?kX N0 ?kT ?kK ?kd ?ku ?kp ?ret
  case hz => walk_at "mine om"
  case kB => assumption
  case kX => assumption
  case kT => assumption
  case kK => exact rfl
  case kd => decide
  case ku => decide
  case kp => exact Heap.IsList.at hL0 (fun o e => Fr.keep F0 _ _ e)
  case ret =>
    intro v new h1 tk1 q0 F1 N1 o1
    refine let_goal ?_
    intro gl_P
    obtain ⟨fl, us1, n1, eq0, hf1, eq1⟩ := q0
    dsimp only [gl_P]
    clear gl_P
    subst eq0 eq1
    (try k_fold)
    (try k_sweep)
    k_steps
    unfold Hold
    rename Fr _ _ _ _ => F2
    rename News _ _ _ _ => N2
    rename _ ∧ _ ∧ _ ∧ _ ∧ _ ∧ AllLt _ _ => q4
    rename _ ∧ _ ∧ _ ∧ _ ∧ AllLt _ _ => q3
    rename _ ∧ _ ∧ _ ∧ AllLt _ _ => q2
    rename _ ∧ _ ∧ AllLt _ _ => q1
    rename ∀ p : Addr × Obj, p ∈ _ → p.1 < _ => qd
    refine let_goal ?_
    intro gl_P
    obtain ⟨a, sy, ea, P2, N3, hR3⟩ := sym_made N2 (by assumption) (by assumption) (by assumption) (by assumption) (by assumption) q1 q2 q3 q4 qd
    obtain ⟨F3, _⟩ := Fr.pickE (ps := [(Str.ofString "self", .ref a.s)]) F2 (List.forall_mem_cons.mpr ⟨by rw [ea]; rfl, fun _ h => nomatch h⟩)
    dsimp only [gl_P]
    clear gl_P
    refine' init_tail _ _ _ _ _ _ _ _ _ _ _ _ _ _ _ _ a _ 0 sy _ _ _ _ _ _ _ ?hE ?B F3 ?X N3 hR3 ?T ?hd ?hu P2 (by walk_at "mine om") ?kr
    case hE => passes_own
    case B => assumption
    case X => assumption
    case T => assumption
    case hd => first | k_room | exact of_decide_eq_true (Eq.refl true)
    case hu => first | exact of_decide_eq_true (Eq.refl true) | ktr_units
    case kr =>
      intro h' tk' m' st' sy' F' N' hR' P'
      subst ea
      replace N' := news_sub (mu := (fl, W.listOf us1.toArray n1) :: symR w a sy') N' fun p hp => by
        rcases List.mem_cons.mp hp with h | hp
        · exact List.mem_append.mpr (.inr (by first | walk_at "mine mem1" | simp [h]))
        · exact List.mem_append.mpr (.inl hp)
      clear N2 N3 F2 F3
      (try dsimp only)
      k_steps
      unfold Hold
      dsimp only [List.nil_append]
      rename News _ _ _ _ => N4
      rename Fr _ _ _ _ => F4
      have far4 : Far [(fl, W.listOf us1.toArray n1)] (symR w a sy') := ⟨by simp, fun x hx y hy => hR' x (by simpa using hx) y hy⟩
      clear hR' hR3 N'
      refine' useNew (shapes_new _ _ _ _) ?kB F4 ?kX N4 ?kT ?kK ?kd ?ku trivial ?ret2
      case kB => assumption
      case kX => assumption
      case kT => assumption
      case kK => exact rfl
      case kd => decide
      case ku => decide
      case ret2 =>
        intro v new h2 tk2 q0 F5 N5 o5
        refine let_goal ?_
        intro gl_P
        obtain ⟨tb, ob, eq0, hfo, eq1⟩ := q0
        dsimp only [gl_P]
        clear gl_P
        subst eq0 eq1
        (try k_fold)
        (try k_sweep)
        k_steps
        unfold Hold
        dsimp only [List.nil_append]
        rename News _ _ _ _ => N6
        rename Fr _ _ _ _ => F6
        refine' useNew (law_rows_new _ _ _ _) ?kB F6 ?kX N6 ?kT ?kK ?kd ?ku trivial ?ret3
        case kB => assumption
        case kX => assumption
        case kT => assumption
        case kK => exact rfl
        case kd => decide
        case ku => decide
        case ret3 =>
          intro v new h3 tk3 q0 F7 N7 o7
          refine let_goal ?_
          intro gl_P
          obtain ⟨rl, rits, rn, rown, eq0, hrows, eq1⟩ := q0
          dsimp only [gl_P]
          clear gl_P
          subst eq0 eq1
          (try k_fold)
          (try k_sweep)
          k_steps
          unfold Hold
          rename News _ _ _ _ => N8
          obtain ⟨R1, hR1, hiff⟩ := news_dedup (it := (rl, W.listOf rits.toArray rn) :: rown) (news_sub N8 fun p hp => List.mem_append.mpr (.inl hp))
          have hfar : Far ((fl, W.listOf us1.toArray n1) :: (tb, ob) :: R1) (symR w a sy') := by
            have f1 : Far ((tb, ob) :: [(fl, W.listOf us1.toArray n1)]) (symR w a sy') := far4.cons fun q hq => Ne.symm (o5 q hq _ (.head _))
            refine Far.more (X := [(fl, W.listOf us1.toArray n1), (tb, ob)]) (f1.perm (.swap _ _ _)) hR1 fun x hx b hb => ?_
            obtain ⟨y, hy, rfl⟩ := List.mem_map.mp hb
            refine o7 y ?_ x ((hiff x).mpr hx)
            simp only [List.mem_append, List.mem_cons, List.not_mem_nil, or_false] at hy ⊢
            rcases hy with (h | h) | h
            · exact .inr (.inl h)
            · exact .inl h
            · exact .inr (.inr h)
          have N9 : News _ _ _ (((fl, W.listOf us1.toArray n1) :: (tb, ob) :: R1) ++ symR w a sy') := news_sub N8 fun p hp => by
            rcases List.mem_append.mp hp with hp | hp
            · rcases List.mem_cons.mp hp with h | hp
              · exact List.mem_append.mpr (.inr (.tail _ (h ▸ .head _)))
              · rcases List.mem_cons.mp hp with h | hp
                · exact List.mem_append.mpr (.inr (h ▸ .head _))
                · exact List.mem_append.mpr (.inl ((hiff p).mpr hp))
            · exact List.mem_append.mpr (.inr (.tail _ (.tail _ hp)))
          have hrows' := hrows.sub (fz' := (tb, ob) :: R1) fun p hp => .tail _ ((hiff p).mp (.tail _ hp))
          have hrl : (rl, W.listOf rits.toArray rn) ∈ (tb, ob) :: R1 := .tail _ ((hiff _).mp (.head _))
          clear N8 o7 o5
          replace N9 : News _ _ _ ((fl, W.listOf us1.toArray n1) :: (((tb, ob) :: R1) ++ symR w a sy')) := N9
          rename Fr _ _ _ _ => F8
          with_unfolding_all refine' For_invVF F8 ?fk1 ?fk2 ?fk3
          case fk1 => exact rfl
          case fk2 => exact rfl
          case fk3 =>
          k_steps
          unfold Hold
          rename Fr _ _ _ _ => F8
          rename News _ _ _ _ => N10
          refine' useDrawH (by walk_at "mine om") ?kB F8 ?kX N10 ?kT ?kK ?kd ?ku hf1 hfar.head ?ret4
          case kB => assumption
          case kX => assumption
          case kT => assumption
          case kK => exact rfl
          case kd => decide
          case ku => decide
          case ret4 =>
            intro i1 t1 h4 tk4 us2 n2 lo1 hi1 hf2 F9 N11
            have hfar2 : Far ((fl, W.listOf us2.toArray n2) :: (tb, ob) :: R1) (symR w a sy') := hfar.set
            obtain ⟨nn, hnn, hn4⟩ : ∃ nn : Nat, i1 = 4 - (nn : Int) ∧ Hold (nn ≤ 4) := ⟨(4 - i1).toNat, by walk_at "mine om", by show (4 - i1).toNat ≤ 4; walk_at "mine om"⟩
            subst hnn
            clear lo1 hi1
            (try k_fold)
            (try k_sweep)
            k_steps
            unfold Hold
            have hn4' : nn ≤ 4 := hn4
            rename IsRange _ _ _ _ _ _ _ _ => hrng
            rename Fr _ _ _ _ => lF
            rename News _ _ _ _ => lN
            rw [show (4 : Int) - (4 - (nn : Int)) = (nn : Int) by walk_at "mine om"] at hrng
            refine' range_s (σ := LwS) (n := nn) (fun q => ((fl, W.listOf q.us.toArray q.n) :: (tb, ob) :: R1) ++ symR w a q.sy) (fun _ => []) [Str.ofString "name", Str.ofString "kinds", Str.ofString "words", Str.ofString "parts", Str.ofString "kind", Str.ofString "part", Str.ofString "step", Str.ofString "told", Str.ofString "key", Str.ofString "due", Str.ofString "spoil", Str.ofString "kept"]
              (fun i q => FigL q.us ∧ SyP w a q.st (100 + 1000 * i) q.sy ∧ Far ((fl, W.listOf q.us.toArray q.n) :: (tb, ob) :: R1) (symR w a q.sy)) ⟨us2, n2, st', sy'⟩ rfl hrng (small10 _ (by walk_at "mine om")) (size10 _ (by walk_at "mine om")) lF lN (fun _ h => nomatch h) ⟨hf2, P'.more (by walk_at "mine om"), hfar2⟩ ?turn ?done
            case turn =>
              rintro i ti ⟨us3, n3, st3, sy3⟩ uu h5 tk5 it hi hI0 hA F12 N12
              with_reducible refine and3 hI0 fun v1 v2 v3 => ?_
              clear hI0
              (try dsimp only at *)
              clear lF lN
              obtain ⟨it', hit, hif2⟩ := news_dedup (it := it) (news_sub N12 fun p hp => List.mem_append.mpr (.inr hp))
              have hfarI := far_w1 (v3.more hit (ownOff_iff hA hif2))
              obtain ⟨F13, e13⟩ := Fr.pickE (ps := [(Str.ofString "figures", .ref fl), (Str.ofString "signs", .ref a.s), (Str.ofString "forms", .ref tb), (Str.ofString "rows", .ref rl)]) F12 (List.forall_mem_cons.mpr ⟨by rfl, List.forall_mem_cons.mpr ⟨by rfl, List.forall_mem_cons.mpr ⟨by rfl, List.forall_mem_cons.mpr ⟨by rfl, fun _ h => nomatch h⟩⟩⟩⟩)
              refine' turn_body w _ _ _ _ _ _ _ _ h5 _ _ _ _ _ a st3 (100 + 1000 * i) sy3 fl tb rl ob us3 rits n3 rn (((tb, ob) :: R1) ++ it') _ _ tk5 _ _ _ ?hE ?B ?XB ?TB F13 ?X (news_sub N12 (mem_w1 hif2)) ?T ?hd ?hu v1 v2 (by walk_at "mine om") hfarI (.head _) hfo (List.mem_append.mpr (.inl hrl)) (hrows'.sub fun p hp => List.mem_append.mpr (.inl hp)) ?kr2
              case hE => passes_own
              case B => assumption
              case XB => assumption
              case TB => assumption
              case X => assumption
              case T => assumption
              case hd => decide
              case hu => decide
              case kr2 =>
                intro h6 tk6 m6 us4 n4 st4 sy4 hf4 F14 N14 P14 far14 hz
                refine TurnS.next (⟨us4, n4, st4, sy4⟩ : LwS) F14 N14 (mem_w2 hif2) ?_ ⟨hf4, P14.more (by walk_at "mine om"), (far_w2 far14).left⟩ (fun _ h => nomatch h) ?_
                · exact ownOff_iff (Far.own (far_w2 far14)) fun p => (hif2 p).symm
                · intro z h1 h2 h3
                  rw [hz z h3, e13]
                  show (if z = Str.ofString "turn" then _ else if List.contains _ z = true then _ else _) = _
                  rw [if_neg h1, if_neg (by rw [h3]; decide)]
            case done =>
              rintro ⟨us3, n3, st3, sy3⟩ uu h5 tk5 hI0 F12 N12
              with_reducible refine and3 hI0 fun v1 v2 v3 => ?_
              clear hI0
              (try dsimp only at *)
              clear lF lN
              k_steps
end
end
end Mine
theorem PySem.Challenge.cw_rh0084_01_holds : PySem.Challenge.rw_rh0084_01.Holds := by
  exact Mine.law_holds
