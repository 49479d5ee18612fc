import PyProof.Rows.All
import Wide.All
import OpenK.AllK
import Wide.FinOn
import KE.KBits
import KE.IntBitsLaws
import KE.BitLaws
import PySem.Challenge.RW_pq1205_01
open PySem PySem.W PyProof.Rows PySem.Calls PySem.Spec
set_option Elab.async false
set_option linter.unusedSimpArgs false
set_option maxRecDepth 100000
set_option maxHeartbeats 8000000
namespace Mine


/-- the builtins that hold a bytearray while they are under way: none may stand below -/
def badC : Code → Bool
  | .builtin id _ => Builtin.Bytes.decodersThatHold.contains id || (["bytearray.__contains__", "bytearray.__mod__", "bytearray.__rmod__", "_struct.pack_into.held", "bytearray.find.held"] : List String).contains id
  | _ => false
def badL (st : List (Code × Pos)) : Bool := st.any fun x => badC x.1
def Clean (Γ : PySem.Ctx) : Prop := badC Γ.code = false ∧ badL Γ.below = false

def wpCl {α : Type} (M : Model) (A : Around) (t : Sem α) (Q : α → Shared → Prop) (E : Value → Shared → Prop) (s : Shared) : Prop :=
  ∀ Γ p, Γ.In A → Clean Γ → Sem.wp M Γ t (fun a _ s' => Q a s') (fun e _ s' => E e s') p s

/-- the call, looked after: under a builtin that holds a bytearray nothing is asked -/
def guarded (f : Value) (vs : List Value) : Sem Value := Sem.stack fun st => if badL st then pure (.bool true) else PySem.call f vs
theorem guarded_of {M : Model} {A : Around} {f : Value} {vs : List Value} {Q E : Value → Shared → Prop} {s : Shared}
    (hq : Q (.bool true) s) (h : wpCl M A (PySem.call f vs) Q E s) : wpAny M A (guarded f vs) Q E s := by
  intro Γ p hΓ
  unfold guarded
  rw [Sem.wp_stack]
  cases hb : badL ((Γ.code, p) :: Γ.below) with
  | true => simpa using hq
  | false =>
    rw [if_neg Bool.false_ne_true]
    unfold badL at hb
    rw [List.any_cons, Bool.or_eq_false_iff] at hb
    exact h Γ p hΓ hb

def treeOf (name : Str) (vs : List Value) : Sem Fin := do match ← nsGet mainNs name with
      | some f => do ret (← PySem.call f vs)
      | none => unsupported "claim.caller:no-such-global"
def treeG (name : Str) (vs : List Value) : Sem Fin := Sem.stack fun st => if badL st then ret (.bool true) else treeOf name vs

theorem sched_guard {p : Program} {w : World} {name : Str} {vs : List Value} {s s' : Shared} {n : Nat} {o : Outcome} (hs : s.asleep)
    (h : schedN (denote table) p w n (.single s ⟨treeG name vs, .builtin "claim.caller" {}, default, []⟩) = .halted o s') :
    ∃ m, schedN (denote table) p w m (.single s ⟨treeOf name vs, .builtin "claim.caller" {}, default, []⟩) = .halted o s' := by
  cases n with
  | zero => cases h
  | succ n =>
    refine ⟨n, ?_⟩
    have hstep : step (denote table) p w s ⟨treeG name vs, .builtin "claim.caller" {}, default, []⟩ = .go s ⟨treeOf name vs, .builtin "claim.caller" {}, default, []⟩ := by
      have hb : badL [(Code.builtin "claim.caller" {}, (default : Pos))] = false := by decide +kernel
      show Step.go s ⟨if badL [(Code.builtin "claim.caller" {}, (default : Pos))] then ret (.bool true) else treeOf name vs, .builtin "claim.caller" {}, default, []⟩ = _
      rw [hb]; rfl
    have e : sstep (denote table) p w (.single s ⟨treeG name vs, .builtin "claim.caller" {}, default, []⟩) = .go (.single s ⟨treeOf name vs, .builtin "claim.caller" {}, default, []⟩) := by
      rcases sstep_single (denote table) p w s ⟨treeG name vs, .builtin "claim.caller" {}, default, []⟩ rfl hs with e | e
      · rw [e, hstep]; rfl
      · rw [hstep] at e; cases e
    simp only [schedN, e] at h
    exact h

theorem holdsOpen_guard {c : ClaimW} {name : Str} {defs keeps : List Str} {writes : Bool}
    (h : c.HoldsOpenBy (fun vs => ⟨treeG name vs, .builtin "claim.caller" {}, default, []⟩) defs keeps writes) : c.HoldsOpenBy (callStub name) defs keeps writes := by
  refine ⟨h.1, h.2.1, fun w => ⟨(h.2.2 w).1, fun s hs => ?_⟩⟩
  have hs' : AfterImport (opening c.prog) w s := hs
  obtain ⟨s₀, hf, hg, s₁, hT, hd, hr, hr2, hc⟩ := (h.2.2 w).2 s hs
  refine ⟨s₀, hf, hg, s₁, hT, hd, hr, hr2, fun args hpre hlay ord hord => ?_⟩
  obtain ⟨vs, s₂, hl, n, o, s', hrun, rest⟩ := hc args hpre hlay ord hord
  have hal := layAllW_rest _ _ _ hl
  have z : s₂.asleep := Shared.asleep_of_life hal.2.2.2 (Shared.asleep_of_life hT.2.1 (Shared.asleep_of_life (fence_lifeW hf) hs'.life))
  obtain ⟨m, hm⟩ := sched_guard z hrun
  exact ⟨vs, s₂, hl, m, o, s', hm, rest⟩

/-- the head's last step, for a call that is looked after -/
theorem PySem.W.holds_open {r : OpenRow} {q : Program} {loose : List Str} {Xt : Shared → Bool} {XP : (Str → Option Value) → Heap → Prop} {α : Type} {Yf : Shared → α} {Ya : World → α} {YP : World → Heap → Prop} {d : DefRec} {kwd : List (Str × PySem.Expr)} {N : Nat}
    (left : LeftO r.prog q loose Xt Yf Ya N) (hY : ∀ w s, Yf s = Ya w → YP w s.heap) (hYk : ∀ w h h', YP w h → (∀ b o, h.get? b = some o → h'.get? b = some o) → YP w h')
    (hX : ∀ s, Xt s = true → XP (s.heap.nsMap mainGlobals) s.heap) (hXk : ∀ mg h h', XP mg h → (∀ b o, h.get? b = some o → h'.get? b = some o) → XP mg h')
    (hdef : defOf q r.name = some (d, kwd)) (hp : r.prog.theDef r.name = some (d.params, d.body, d.scope)) (hk : kwWritten? d.params.kwonlyargs d.params.kw_defaults = some kwd) (hRf : ∀ s, Xt s = true → RecFacts r.records s.heap) (hwr : (!r.writes || r.records.isEmpty) = true)
    (k1 : r.wellSaid = true) (ok : (chainsOk q && opensWell r.prog && (frees r.toRowW && r.within.isEmpty)) = true) (hb : r.prog.bare) (hw : r.toRowW.promised)
    (call : WalkO q loose XP YP r.toRowW d kwd guarded) : r.Holds := by
  refine ⟨k1, hw, holdsOpen_guard (name := r.name) (open_anyG (r := r.toRowW) (run := guarded) (tree := treeG r.name) left hY hYk hX hXk hRf hwr ok hb hw
    (fun vs w s mg f Q E hg hf h => ?_) (fun w s hg G n hn => ?_) fun w s₀ s₁ mg mb G Y args vs as hpre hlay L low => ?_)⟩
  · intro Γ p hΓ
    have h' := h Γ p hΓ
    unfold guarded at h'
    unfold treeG
    rw [Sem.wp_stack] at h' ⊢
    cases hb : badL ((Γ.code, p) :: Γ.below) with
    | true => rw [hb] at h'; exact h'
    | false =>
      rw [hb, if_neg Bool.false_ne_true] at h'
      rw [if_neg Bool.false_ne_true]
      unfold treeOf
      rw [Sem.wp_bind']
      refine (Sem.wp_nsGet (model r.prog w) Γ _ p s hg r.name _).mpr ?_
      rw [hf]
      show Sem.wp _ Γ (PySem.call f vs >>= fun v => ret v) _ _ p s
      rw [Sem.wp_bind']
      exact h'
  · obtain rfl : n = r.name := by split at hn <;> simp_all
    exact pinned_of_view hg G hdef hp hk
  · obtain ⟨a, o, pm, cd, doc, dV, kV, h1, h2, h3, h4, h5⟩ := G.fn hdef
    exact ⟨.ref a, h1, call w s₀ s₁ mg mb G Y a o pm cd doc dV kV h2 h3 h4 h5 (defOf_name hdef ▸ h1) L.gens args vs as hpre hlay L.reads L.well (L.low low)⟩

open_top hd for PySem.Challenge.rw_pq1205_01
section
open PySem PySem.W PyProof.Rows PySem.Calls PySem.Spec


abbrev Led := List (Addr × Obj)
abbrev TopM (mean : ExcName → Option Value) (mg mb : Str → Option Value) (g : Heap) : Prop :=
  Top Mine.hd.view_39 (looseW Mine.hd.view_39 [Str.ofString "MOST_64", Str.ofString "XxHash64", Str.ofString "xxh64"]) mean mg mb g
abbrev MM (w : World) : Model := model PySem.Challenge.pw_pq1205_01 w
abbrev arnd (dp un : Nat) (gd : Option (List Code)) (fr : List Env) : Around := { handled := none, depth := dp, frames := some fr, guards := gd, units := un }

/-- what a body must come back with -/
def Done (g : Heap) (L : Addr) (s₀ : Shared) (post : Value → Led → Prop) (v : Value) (s' : Shared) : Prop :=
  ∃ h' tk' m' news', s' = { s₀ with heap := h', toks := tk' } ∧ Fr g L h' m' ∧ News g L h' news' ∧ post v news'
theorem Done.intro {g : Heap} {L : Addr} {s₀ : Shared} {post : Value → Led → Prop} {v : Value} {h' : Heap} {tk' : Nat} {m' : Str → Option Value} (news' : Led)
    (F : Fr g L h' m') (N : News g L h' news') (p : post v news') : Done g L s₀ post v { s₀ with heap := h', toks := tk' } := ⟨h', tk', m', news', rfl, F, N, p⟩

/-- a contract of a def of the text -/
def HCtr (w : World) (mean : ExcName → Option Value) (mg mb : Str → Option Value) (lvl : Nat) (f : Addr) (vs : List Value) (touched : Led) (post : Value → Led → Prop) : Prop :=
  ∀ (dp un : Nat) (gd : Option (List Code)) (env : Env) (outer : List Env) (base g : Heap) (s : Shared) (R : Result → Shared → Prop),
    Below (arnd dp un gd (env :: outer)) base (env :: outer) g → g.StaysIn s.heap → g.objs.size ≤ s.heap.objs.size →
    (Mine.hd.heap_39 w.params).In g → TopM mean mg mb g →
    (∀ p ∈ touched, s.heap.get? p.1 = some p.2 ∧ g.get? p.1 = none) → dp + lvl < recursionLimit → un + 8 * lvl < cLine →
    (∀ r news' h' tk', g.StaysIn h' → (∀ p ∈ news', h'.get? p.1 = some p.2 ∧ g.get? p.1 = none) → post r news' → R (.ok (.ret r)) { s with heap := h', toks := tk' }) →
    codeAny (MM w) (arnd dp un gd (env :: outer)) (.call (.ref f) ⟨vs, []⟩) R s

section
variable {w : World} {mean : ExcName → Option Value} {mg mb : Str → Option Value} {lvl : Nat} {f : Addr} {vs : List Value} {touched : Led} {post : Value → Led → Prop}

/-- the entry of a def without cells -/
theorem h_enter {name qual : Str} {params : Arguments} {body : List Stmt} {scope : Scope} {dV kV doc pm cdv ct oc : Value} {an od : Option Addr} {osl : Array (Option Value)} {binds : List (Str × Value)}
    (ho : (Mine.hd.heap_39 w.params).lookup f = some ⟨oc, od, .func (fnOf name qual params body scope dV kV doc pm an cdv ct), osl⟩) (hcd : codeIn (Mine.hd.heap_39 w.params) cdv qual = true)
    (hbind : ∀ s : Shared, (Mine.hd.heap_39 w.params).In s.heap → BindsTo s (fnOf name qual params body scope dV kV doc pm an cdv ct) ⟨vs, []⟩ binds) (hloc : ∀ y ∈ binds, scope.names.lookup y.1 = some .local)
    (hco : scope.isCoroutine = false) (hgen : scope.isGenerator = false) (hk : scope.kind = .function) (hcell : ∀ x ∈ scope.names, x.2 ≠ .cell) (hl : 0 < lvl)
    (h : ∀ (dp un : Nat) (gd : Option (List Code)) (env : Env) (outer : List Env) (base g : Heap) (L : Addr) (h₁ : Heap) (s : Shared),
      Below (arnd dp un gd (env :: outer)) base (env :: outer) g → Fr g L h₁ (fun y => binds.reverse.lookup y) → News g L h₁ touched → (∀ p ∈ touched, p.1 < L) →
      (Mine.hd.heap_39 w.params).In g → TopM mean mg mb g → dp + lvl < recursionLimit → un + 8 * lvl < cLine →
      wpAny (MM w) (ktrTop (dp + 1) (un + 3) gd qual scope L f cdv [] (env :: outer)) (execs body (envOf qual scope L f cdv))
        (fun fl s' => Done g L s post (match fl with | .ret v => v | _ => .none) s') (fun _ _ => False) { s with heap := h₁, toks := s.toks + binds.length }) :
    HCtr w mean mg mb lvl f vs touched post := by
  intro dp un gd env outer base g s R B st sz X T hN hd hu hret
  have Xs : (Mine.hd.heap_39 w.params).In s.heap := X.keeps st
  refine codeAny_call_def (fd := fnOf name qual params body scope dV kV doc pm an cdv ct) (body := body) (binds := binds) (by show dp < recursionLimit; omega) (Xs _ _ ho) rfl (T.nolimit.keeps st) (codeRec_of Xs hcd) rfl (hbind s Xs) hcell hloc (fun h₁ hns hk₁ => ?_) hco hgen hk
  refine wpAny_mono (h dp un gd env outer base g s.heap.objs.size h₁ s B ⟨hns, fun b o e => hk₁ b o (st b o e), sz⟩ (fun p hp => ⟨hk₁ _ _ (hN p hp).1, Nat.ne_of_lt (Heap.lt_size (hN p hp).1), (hN p hp).2⟩) (fun p hp => Heap.lt_size (hN p hp).1) X T hd hu) (fun fl s' q => ?_) fun _ _ e => e.elim
  obtain ⟨h', tk', m', news', rfl, F', N', p⟩ := q
  exact hret _ _ _ _ F'.keep (fun p hp => ⟨(N' p hp).1, (N' p hp).2.2⟩) p

/-- one object picked out of the ledger -/
inductive Sel (a : Addr) (o : Obj) : Led → Led → Prop
  | head {r} : (∀ p ∈ r, p.1 ≠ a) → Sel a o ((a, o) :: r) r
  | tail {p r r'} : p.1 ≠ a → Sel a o r r' → Sel a o (p :: r) (p :: r')
theorem Sel.spec {a : Addr} {o : Obj} : ∀ {l l' : Led}, Sel a o l l' → (a, o) ∈ l ∧ (∀ p ∈ l', p ∈ l ∧ p.1 ≠ a)
  | _, _, .head h => ⟨.head _, fun p hp => ⟨.tail _ hp, h p hp⟩⟩
  | _, _, .tail n r => ⟨.tail _ r.spec.1, fun q hq => by
      rcases List.mem_cons.mp hq with rfl | hq
      · exact ⟨.head _, n⟩
      · exact ⟨.tail _ (r.spec.2 q hq).1, (r.spec.2 q hq).2⟩⟩
inductive Sels : Led → Led → Led → Prop
  | nil {l} : Sels [] l l
  | cons {a o r l l' l''} : Sel a o l l' → Sels r l' l'' → Sels ((a, o) :: r) l l''
theorem Sels.spec : ∀ {t l l' : Led}, Sels t l l' → (∀ p ∈ t, p ∈ l) ∧ (∀ p ∈ l', p ∈ l) ∧ (∀ p ∈ l', ∀ q ∈ t, p.1 ≠ q.1)
  | _, _, _, .nil => ⟨fun _ h => (nomatch h), fun _ h => h, fun _ _ _ h => (nomatch h)⟩
  | _, _, _, .cons s r => ⟨fun p hp => by
      rcases List.mem_cons.mp hp with rfl | hp
      · exact s.spec.1
      · exact (s.spec.2 p (r.spec.1 p hp)).1, fun p hp => (s.spec.2 p (r.spec.2.1 p hp)).1, fun p hp q hq => by
      rcases List.mem_cons.mp hq with rfl | hq
      · exact (s.spec.2 p (r.spec.2.1 p hp)).2
      · exact r.spec.2.2 p hp q hq⟩

theorem h_code (C : HCtr w mean mg mb lvl f vs touched post) {A A₀ : Around} {env : Env} {outer : List Env} {base h₀ : Heap} {L : Addr} {m : Str → Option Value} {s : Shared} {news rest : Led} {R : Result → Shared → Prop}
    (B : Below A₀ base outer h₀) (F : Fr h₀ L s.heap m) (X : (Mine.hd.heap_39 w.params).In h₀) (N : News h₀ L s.heap news) (T : TopM mean mg mb h₀)
    (hS : Sels touched news rest) (hh : A.handled = none) (hA : A.frames = some (env :: outer)) (hf : env.frame = some L) (hke : env.scope.kind = .function) (hd : A.depth + lvl < recursionLimit) (hu : A.units + 8 * lvl < cLine)
    (ret : ∀ r news' h' tk', Fr h₀ L h' m → News h₀ L h' (news' ++ rest) → (∀ p ∈ news', ∀ q ∈ rest, p.1 ≠ q.1) → post r news' → R (.ok (.ret r)) { s with heap := h', toks := tk' }) :
    codeAny (MM w) A (.call (.ref f) ⟨vs, []⟩) R s := by
  obtain ⟨s1, s2, s3⟩ := hS.spec
  have Nt : News h₀ L s.heap touched := fun p hp => N p (s1 p hp)
  obtain ⟨FG, BG, stG, lv⟩ := groundX (R := R) B F Nt hA hf hke
  have eA : A = arnd A.depth A.units A.guards (env :: outer) := by
    obtain ⟨a1, a2, a3, a4, a5⟩ := A
    simp only at hh hA
    subst hh hA
    rfl
  rw [eA]
  refine C A.depth A.units A.guards env outer base (hideAll s.heap (touched.map (·.1))) s R ⟨rfl, BG.stays, BG.frames⟩ (fun b o e => of_hideAll _ e) (Nat.le_of_eq (hideAll_size _ _)) (X.keeps fun b o e => stG b o e) (T.keeps fun b o e => stG b o e)
    (fun p hp => ⟨(Nt p hp).1, hideAll_none _ (List.mem_map_of_mem hp)⟩) hd hu (fun r news' h' tk' st' hN' hp' => ?_)
  have hL : ∀ p ∈ news', p.1 ≠ L := fun p hp q => by
    obtain ⟨oL, es, ep, hL, _⟩ := FG.ns
    have := (hN' p hp).2; rw [q, hL] at this; cases this
  have rk : ∀ q ∈ rest, (hideAll s.heap (touched.map (·.1))).get? q.1 = some q.2 := fun q hq => hideAll_get _ (N q (s2 q hq)).1 fun hm => by
    obtain ⟨t, ht, e⟩ := List.mem_map.mp hm
    exact s3 q hq t ht e.symm
  refine ret r news' h' tk' ⟨?_, fun b o e => st' b o (stG b o e), F.above⟩ ?_ ?_ hp'
  · obtain ⟨oL, es, ep, hL, hr⟩ := FG.ns
    exact ⟨oL, es, ep, st' _ _ hL, hr⟩
  · intro p hp
    rcases List.mem_append.mp hp with hp | hp
    · refine ⟨(hN' p hp).1, hL p hp, ?_⟩
      cases q : h₀.get? p.1 with
      | none => rfl
      | some o => have := (hN' p hp).2; rw [stG _ _ q] at this; cases this
    · exact ⟨st' _ _ (rk p hp), (N p (s2 p hp)).2⟩
  · intro p hp q hq e
    have := (hN' p hp).2
    rw [e, rk q hq] at this; cases this

theorem h_call (C : HCtr w mean mg mb lvl f vs touched post) {A A₀ : Around} {env : Env} {outer : List Env} {base h₀ : Heap} {L : Addr} {m : Str → Option Value} {s : Shared} {news rest : Led} {Q E : Value → Shared → Prop}
    (B : Below A₀ base outer h₀) (F : Fr h₀ L s.heap m) (X : (Mine.hd.heap_39 w.params).In h₀) (N : News h₀ L s.heap news) (T : TopM mean mg mb h₀)
    (hS : Sels touched news rest) (hh : A.handled = none) (hA : A.frames = some (env :: outer)) (hf : env.frame = some L) (hke : env.scope.kind = .function) (hd : A.depth + lvl < recursionLimit) (hu : A.units + 8 * lvl < cLine)
    (ret : ∀ r news' h' tk', Fr h₀ L h' m → News h₀ L h' (news' ++ rest) → (∀ p ∈ news', ∀ q ∈ rest, p.1 ≠ q.1) → post r news' → Q r { s with heap := h', toks := tk' }) :
    wpAny (MM w) A (call (.ref f) vs) Q E s :=
  wpAny_call (h_code C B F X N T hS hh hA hf hke hd hu ret)
end

end
section
open PySem PySem.W PyProof.Rows PySem.Calls

open Sem (wp)

def codeCl (M : Model) (A : Around) (c : Code) (R : Result → Shared → Prop) (s : Shared) : Prop :=
  ∀ Γ p, Γ.code = c → Γ.Below A → badL Γ.below = false → wpCode M Γ R p s

section
variable {α β : Type} {M : Model} {A : Around} {E : Value → Shared → Prop} {s : Shared}
theorem cl_any {t : Sem α} {Q : α → Shared → Prop} (h : wpAny M A t Q E s) : wpCl M A t Q E s := fun Γ p hΓ _ => h Γ p hΓ
theorem cl_mono {t : Sem α} {Q Q' : α → Shared → Prop} {E' : Value → Shared → Prop} (h : wpCl M A t Q E s) (hQ : ∀ a s, Q a s → Q' a s) (hE : ∀ e s, E e s → E' e s) : wpCl M A t Q' E' s :=
  fun Γ p hΓ hc => Sem.wp_mono M Γ t (fun a _ s => hQ a s) (fun e _ s => hE e s) p s (h Γ p hΓ hc)
theorem cl_bind {m : Sem α} {f : α → Sem β} {Q : β → Shared → Prop} (h : wpCl M A m (fun a s' => wpCl M A (f a) Q E s') E s) : wpCl M A (m >>= f) Q E s := fun Γ p hΓ hc => by
  rw [Sem.wp_bind']
  exact Sem.wp_mono M Γ m (fun a p' s' h' => h' Γ p' hΓ hc) (fun _ _ _ h' => h') p s (h Γ p hΓ hc)
theorem cl_bindA {m : Sem α} {f : α → Sem β} {Q : β → Shared → Prop} (h : wpAny M A m (fun a s' => wpCl M A (f a) Q E s') E s) : wpCl M A (m >>= f) Q E s := cl_bind (cl_any h)
theorem cl_holding {vs : List Value} {m : Sem α} {Q : α → Shared → Prop} (h : wpCl M A m Q E s) : wpCl M A (holding vs m) Q E s := fun Γ p hΓ hc => by rw [Sem.wp_holding]; exact h Γ p hΓ hc
theorem cl_keep {vs : List Value} {m : Sem α} {Q : α → Shared → Prop} (h : wpCl M A m Q E s) : wpCl M A (m.keep vs) Q E s := fun Γ p hΓ hc => by rw [Sem.wp_keep]; exact h Γ p hΓ hc
theorem cl_pure {a : α} {Q : α → Shared → Prop} (h : Q a s) : wpCl M A (pure a) Q E s := cl_any (wpAny_pure h)
theorem cl_onRaise {m : Sem α} {k : Value → Sem Unit} {Q : α → Shared → Prop}
    (h : wpCl M A m Q (fun _ _ => False) s) : wpCl M A (m.onRaise k) Q E s := fun Γ p hΓ hc => by
  rw [Sem.wp_onRaise]
  exact Sem.wp_mono M Γ m (fun _ _ _ h' => h') (fun e p' s' h' => h'.elim) p s (h Γ p hΓ hc)
theorem cl_ite_neg {c : Prop} [Decidable c] {a b : Sem α} {Q : α → Shared → Prop} (hc : ¬ c) (h : wpCl M A b Q E s) : wpCl M A (if c then a else b) Q E s := by rw [if_neg hc]; exact h

theorem badL_cons (c : Code) (p : Pos) (l : List (Code × Pos)) : badL ((c, p) :: l) = (badC c || badL l) := rfl

theorem cl_call {f : Value} {pos : List Value} {kw : List (Str × Value)} {Q : Value → Shared → Prop}
    (hc : codeCl M A (.call f ⟨pos, kw⟩) (fun r s' => match r with | .ok (.ret v) => Q v s' | .ok _ => False | .error e => E e s') s) :
    wpCl M A (call f pos kw) Q E s := fun Γ p hΓ hcl => by
  show wp M Γ (runValue _) _ _ p s
  rw [Sem.wp_runValue]
  exact hc _ p rfl (hΓ.enter _ none p (by intro x; cases x)) (by show badL ((Γ.code, p) :: Γ.below) = false; rw [badL_cons, hcl.1, hcl.2]; rfl)
theorem codeCl_of_any {c : Code} {R : Result → Shared → Prop} (h : codeAny M A c R s) : codeCl M A c R s := fun Γ p hc hb _ => h Γ p hc hb
theorem codeCl_mono {c : Code} {R R' : Result → Shared → Prop} (h : codeCl M A c R s) (hR : ∀ r s, R r s → R' r s) : codeCl M A c R' s := fun Γ p hc hb hl => wpCode_mono hR (h Γ p hc hb hl)
theorem codeCl_of_tree {c : Code} {R : Result → Shared → Prop} (hbad : badC c = false)
    (h : wpCl M (A.under c) (M.den c) (fun fin s' => match fin with | .done f => R (.ok f) s' | .again c' => c'.quiet = true ∧ codeCl M A c' R s')
      (fun e s' => R (.error e) s') s) : codeCl M A c R s := fun Γ p hc hΓ hl => by
  rw [wpCode_iff_wp, hc]
  refine Sem.wp_mono M Γ _ (fun fin p' s' h' => ?_) (fun _ _ _ h' => h') p s (h Γ p (hc ▸ hΓ.in) ⟨by rw [hc]; exact hbad, hl⟩)
  cases fin with
  | done f => exact h'
  | again c' => exact ⟨h'.1, h'.2 (Γ.goto c') p' rfl (hΓ.goto c') hl⟩
end

section
variable {prog : Program} {w : World} {A : Around} {E : Value → Shared → Prop} {s : Shared} {R : Result → Shared → Prop}
theorem codeCl_func {body : List Stmt} {env : Env} (h : wpCl (model prog w) (A.deeper env) (execs body env) (fun f s' => R (.ok (.ret (match f with | .ret v => v | _ => .none))) s') (fun _ _ => False) s) :
    codeCl (model prog w) A (.func body env) R s := by
  refine codeCl_of_tree rfl ?_
  have eA : A.under (.func body env) = A.deeper env := by
    obtain ⟨hd, d, fr, gs, u⟩ := A
    cases fr <;> cases gs <;> rfl
  rw [eA]
  show wpCl _ _ (do point; match ← (execs body env).onRaise (leaving env) with | .ret v => ret v | _ => ret .none) _ _ s
  refine cl_bindA (wpAny_point ?_)
  refine cl_bind (cl_onRaise (cl_mono h (fun f s' h' => ?_) fun _ _ x => x))
  cases f <;> exact cl_pure h'
theorem codeCl_call_function {a : Addr} {args : Args} {o : Obj} {fd : FuncData} {body : List Stmt} (hroom : A.depth < recursionLimit)
    (ho : s.heap.get? a = some o)
    (hd' : o.data = .func fd) (hco : fd.scope.isCoroutine = false) (hgen : fd.scope.isGenerator = false) (hbody : fd.body = .stmts body) (hcd : s.heap.CodeRec fd.code fd.qualname)
    (h : wpAny (model prog w) A.in1 (bindArgs fd args) (fun binds s₁ =>
      wpAny (model prog w) A.in1 (newFunctionEnv fd.scope fd.globals fd.closure binds (fd.qualname ++ ".<locals>.") (some a) fd.code none fd.builtins)
        (fun env s₂ => s₂.heap.NoLimit ∧ codeCl (model prog w) A (.func body env) R s₂) (fun e s' => R (.error e) s') s₁) (fun e s' => R (.error e) s') s) :
    codeCl (model prog w) A (.call (.ref a) args) R s := by
  refine codeCl_of_tree rfl (cl_any ?_)
  show wpAny _ A.in1 (callAny (.ref a) args) _ _ s
  simp only [callAny]
  refine wpAny_bind (wpAny_load ho ?_)
  obtain ⟨c, oc, vs, tq, hc, hoc, hdc, hq⟩ := hcd
  simp only [hd', callFunction, hco, hgen, hbody, hc]
  rw [hc] at h
  refine wpAny_bind (m := field (.ref c) 1) (wpAny_field hoc hdc hq (wpAny_bind (wpAny_pure ?_)))
  exact wpAny_bind (wpAny_mono h (fun binds s₁ h₁ => wpAny_bind (wpAny_mono h₁ (fun env s₂ h₂ => wpAny_bind (wpAny_enterFrame h₂.1 hroom
    (wpAny_pure (And.intro rfl h₂.2)))) fun _ _ h' => h')) fun _ _ h' => h')
end

/-- a contract that is good in clean contexts alone -/
def HCtrC (w : World) (mean : ExcName → Option Value) (mg mb : Str → Option Value) (lvl : Nat) (f : Addr) (vs : List Value) (touched : Led) (post : Value → Led → Prop) : Prop :=
  ∀ (dp un : Nat) (gd : Option (List Code)) (env : Env) (outer : List Env) (base g : Heap) (s : Shared) (R : Result → Shared → Prop),
    Below (arnd dp un gd (env :: outer)) base (env :: outer) g → g.StaysIn s.heap → g.objs.size ≤ s.heap.objs.size →
    (Mine.hd.heap_39 w.params).In g → TopM mean mg mb g →
    (∀ p ∈ touched, s.heap.get? p.1 = some p.2 ∧ g.get? p.1 = none) → dp + lvl < recursionLimit → un + 8 * lvl < cLine →
    (∀ r news' h' tk', g.StaysIn h' → (∀ p ∈ news', h'.get? p.1 = some p.2 ∧ g.get? p.1 = none) → post r news' → R (.ok (.ret r)) { s with heap := h', toks := tk' }) →
    codeCl (MM w) (arnd dp un gd (env :: outer)) (.call (.ref f) ⟨vs, []⟩) R s

section
variable {w : World} {mean : ExcName → Option Value} {mg mb : Str → Option Value} {lvl : Nat} {f : Addr} {vs : List Value} {touched : Led} {post : Value → Led → Prop}
theorem h_enterC {name qual : Str} {params : Arguments} {body : List Stmt} {scope : Scope} {dV kV doc pm cdv ct oc : Value} {an od : Option Addr} {osl : Array (Option Value)} {binds : List (Str × Value)}
    (ho : (Mine.hd.heap_39 w.params).lookup f = some ⟨oc, od, .func (fnOf name qual params body scope dV kV doc pm an cdv ct), osl⟩) (hcd : codeIn (Mine.hd.heap_39 w.params) cdv qual = true)
    (hbind : ∀ s : Shared, (Mine.hd.heap_39 w.params).In s.heap → BindsTo s (fnOf name qual params body scope dV kV doc pm an cdv ct) ⟨vs, []⟩ binds) (hloc : ∀ y ∈ binds, scope.names.lookup y.1 = some .local)
    (hco : scope.isCoroutine = false) (hgen : scope.isGenerator = false) (hk : scope.kind = .function) (hcell : ∀ x ∈ scope.names, x.2 ≠ .cell) (hl : 0 < lvl)
    (h : ∀ (dp un : Nat) (gd : Option (List Code)) (env : Env) (outer : List Env) (base g : Heap) (L : Addr) (h₁ : Heap) (s : Shared),
      Below (arnd dp un gd (env :: outer)) base (env :: outer) g → Fr g L h₁ (fun y => binds.reverse.lookup y) → News g L h₁ touched → (∀ p ∈ touched, p.1 < L) →
      (Mine.hd.heap_39 w.params).In g → TopM mean mg mb g → dp + lvl < recursionLimit → un + 8 * lvl < cLine →
      wpCl (MM w) (ktrTop (dp + 1) (un + 3) gd qual scope L f cdv [] (env :: outer)) (execs body (envOf qual scope L f cdv))
        (fun fl s' => Done g L s post (match fl with | .ret v => v | _ => .none) s') (fun _ _ => False) { s with heap := h₁, toks := s.toks + binds.length }) :
    HCtrC w mean mg mb lvl f vs touched post := by
  intro dp un gd env outer base g s R B st sz X T hN hd hu hret
  have Xs : (Mine.hd.heap_39 w.params).In s.heap := X.keeps fun b o e => st b o e
  refine codeCl_call_function (fd := fnOf name qual params body scope dV kV doc pm an cdv ct) (body := body) (by show dp < recursionLimit; omega) (Xs _ _ ho) rfl hco hgen rfl (codeRec_of Xs hcd) (hbind s Xs _ _ _ _ ?_)
  refine wpAny_newFunctionEnv hcell hloc (fun h₁ hns hsb => ⟨(T.nolimit.keeps fun b o e => st b o e).fresh _ hsb, codeCl_func ?_⟩) hk
  have hk₁ : ∀ b o, s.heap.get? b = some o → h₁.get? b = some o := fun b o e => hsb.extBut b o (Nat.ne_of_lt (Heap.lt_size e)) (Heap.get?_push_of_some _ e)
  refine cl_mono (h dp un gd env outer base g s.heap.objs.size h₁ s B ⟨hns, fun b o e => hk₁ b o (st b o e), sz⟩ (fun p hp => ⟨hk₁ _ _ (hN p hp).1, Nat.ne_of_lt (Heap.lt_size (hN p hp).1), (hN p hp).2⟩) (fun p hp => Heap.lt_size (hN p hp).1) X T hd hu) (fun fl s' q => ?_) fun _ _ e => e.elim
  obtain ⟨h', tk', m', news', rfl, F', N', p⟩ := q
  exact hret _ _ _ _ F'.keep (fun p hp => ⟨(N' p hp).1, (N' p hp).2.2⟩) p

theorem h_codeC (C : HCtrC w mean mg mb lvl f vs touched post) {A A₀ : Around} {env : Env} {outer : List Env} {base h₀ : Heap} {L : Addr} {m : Str → Option Value} {s : Shared} {news rest : Led} {R : Result → Shared → Prop}
    (B : Below A₀ base outer h₀) (F : Fr h₀ L s.heap m) (X : (Mine.hd.heap_39 w.params).In h₀) (N : News h₀ L s.heap news) (T : TopM mean mg mb h₀)
    (hS : Sels touched news rest) (hh : A.handled = none) (hA : A.frames = some (env :: outer)) (hf : env.frame = some L) (hke : env.scope.kind = .function) (hd : A.depth + lvl < recursionLimit) (hu : A.units + 8 * lvl < cLine)
    (ret : ∀ r news' h' tk', Fr h₀ L h' m → News h₀ L h' (news' ++ rest) → (∀ p ∈ news', ∀ q ∈ rest, p.1 ≠ q.1) → post r news' → R (.ok (.ret r)) { s with heap := h', toks := tk' }) :
    codeCl (MM w) A (.call (.ref f) ⟨vs, []⟩) R s := by
  obtain ⟨s1, s2, s3⟩ := hS.spec
  have Nt : News h₀ L s.heap touched := fun p hp => N p (s1 p hp)
  obtain ⟨FG, BG, stG, lv⟩ := groundX (R := R) B F Nt hA hf hke
  have eA : A = arnd A.depth A.units A.guards (env :: outer) := by
    obtain ⟨a1, a2, a3, a4, a5⟩ := A
    simp only at hh hA
    subst hh hA
    rfl
  rw [eA]
  refine C A.depth A.units A.guards env outer base (hideAll s.heap (touched.map (·.1))) s R ⟨rfl, BG.stays, BG.frames⟩ (fun b o e => of_hideAll _ e) (Nat.le_of_eq (hideAll_size _ _)) (X.keeps fun b o e => stG b o e) (T.keeps fun b o e => stG b o e)
    (fun p hp => ⟨(Nt p hp).1, hideAll_none _ (List.mem_map_of_mem hp)⟩) hd hu (fun r news' h' tk' st' hN' hp' => ?_)
  have hL : ∀ p ∈ news', p.1 ≠ L := fun p hp q => by
    obtain ⟨oL, es, ep, hL, _⟩ := FG.ns
    have := (hN' p hp).2; rw [q, hL] at this; cases this
  have rk : ∀ q ∈ rest, (hideAll s.heap (touched.map (·.1))).get? q.1 = some q.2 := fun q hq => hideAll_get _ (N q (s2 q hq)).1 fun hm => by
    obtain ⟨t, ht, e⟩ := List.mem_map.mp hm
    exact s3 q hq t ht e.symm
  refine ret r news' h' tk' ⟨?_, fun b o e => st' b o (stG b o e), F.above⟩ ?_ ?_ hp'
  · obtain ⟨oL, es, ep, hL, hr⟩ := FG.ns
    exact ⟨oL, es, ep, st' _ _ hL, hr⟩
  · intro p hp
    rcases List.mem_append.mp hp with hp | hp
    · refine ⟨(hN' p hp).1, hL p hp, ?_⟩
      cases q : h₀.get? p.1 with
      | none => rfl
      | some o => have := (hN' p hp).2; rw [stG _ _ q] at this; cases this
    · exact ⟨st' _ _ (rk p hp), (N p (s2 p hp)).2⟩
  · intro p hp q hq e
    have := (hN' p hp).2
    rw [e, rk q hq] at this; cases this
theorem h_callC (C : HCtrC w mean mg mb lvl f vs touched post) {A A₀ : Around} {env : Env} {outer : List Env} {base h₀ : Heap} {L : Addr} {m : Str → Option Value} {s : Shared} {news rest : Led} {Q E : Value → Shared → Prop}
    (B : Below A₀ base outer h₀) (F : Fr h₀ L s.heap m) (X : (Mine.hd.heap_39 w.params).In h₀) (N : News h₀ L s.heap news) (T : TopM mean mg mb h₀)
    (hS : Sels touched news rest) (hh : A.handled = none) (hA : A.frames = some (env :: outer)) (hf : env.frame = some L) (hke : env.scope.kind = .function) (hd : A.depth + lvl < recursionLimit) (hu : A.units + 8 * lvl < cLine)
    (ret : ∀ r news' h' tk', Fr h₀ L h' m → News h₀ L h' (news' ++ rest) → (∀ p ∈ news', ∀ q ∈ rest, p.1 ≠ q.1) → post r news' → Q r { s with heap := h', toks := tk' }) :
    wpCl (MM w) A (call (.ref f) vs) Q E s :=
  cl_call (h_codeC C B F X N T hS hh hA hf hke hd hu ret)
end
end
section
open PySem PySem.W PyProof.Rows PySem.Calls PySem.Spec

theorem room1 {dp n R : Nat} (h : dp + (n + 1) < R) : dp + 1 + n < R := by rw [Nat.add_assoc, Nat.add_comm 1 n]; exact h
theorem room3 {un n R : Nat} (h : un + (n + 3) < R) : un + 3 + n < R := by rw [Nat.add_assoc, Nat.add_comm 3 n]; exact h
theorem lt_room {a b n c : Nat} (h : a + n < c) (hb : b ≤ n) : a + b < c := Nat.lt_of_le_of_lt (Nat.add_le_add_left hb a) h
section
variable {w : World} {mean : ExcName → Option Value} {mg mb : Str → Option Value} {lvl : Nat} {f : Addr} {vs : List Value} {touched : Led}
/-- a call that gives an int and touches nothing -/
theorem h_call0 {v : Int} (C : HCtr w mean mg mb lvl f vs [] (fun r news' => news' = [] ∧ ∃ t, r = .int v t)) {A A₀ : Around} {env : Env} {outer : List Env} {base h₀ : Heap} {L : Addr} {m : Str → Option Value} {s : Shared} {news : Led} {Q E : Value → Shared → Prop}
    (B : Below A₀ base outer h₀) (F : Fr h₀ L s.heap m) (X : (Mine.hd.heap_39 w.params).In h₀) (N : News h₀ L s.heap news) (T : TopM mean mg mb h₀)
    (hh : A.handled = none) (hA : A.frames = some (env :: outer)) (hf : env.frame = some L) (hke : env.scope.kind = .function) (hd : A.depth + lvl < recursionLimit) (hu : A.units + 8 * lvl < cLine)
    (ret : ∀ h' tk' t, Fr h₀ L h' m → News h₀ L h' news → Q (.int v t) { s with heap := h', toks := tk' }) :
    wpAny (MM w) A (call (.ref f) vs) Q E s := by
  refine h_call C B F X N T Sels.nil hh hA hf hke hd hu ?_
  rintro r n' h' tk' F' N' _ ⟨rfl, t, rfl⟩
  exact ret h' tk' t F' N'
/-- a call that gives an int and leaves what it is given as it was -/
theorem h_callS {v : Int} (C : HCtr w mean mg mb lvl f vs touched (fun r news' => news' = touched ∧ ∃ t, r = .int v t)) {A A₀ : Around} {env : Env} {outer : List Env} {base h₀ : Heap} {L : Addr} {m : Str → Option Value} {s : Shared} {news rest : Led} {Q E : Value → Shared → Prop}
    (B : Below A₀ base outer h₀) (F : Fr h₀ L s.heap m) (X : (Mine.hd.heap_39 w.params).In h₀) (N : News h₀ L s.heap news) (T : TopM mean mg mb h₀) (hS : Sels touched news rest)
    (hh : A.handled = none) (hA : A.frames = some (env :: outer)) (hf : env.frame = some L) (hke : env.scope.kind = .function) (hd : A.depth + lvl < recursionLimit) (hu : A.units + 8 * lvl < cLine)
    (ret : ∀ h' tk' t, Fr h₀ L h' m → News h₀ L h' (touched ++ rest) → Q (.int v t) { s with heap := h', toks := tk' }) :
    wpAny (MM w) A (call (.ref f) vs) Q E s := by
  refine h_call C B F X N T hS hh hA hf hke hd hu ?_
  rintro r n' h' tk' F' N' _ ⟨rfl, t, rfl⟩
  exact ret h' tk' t F' N'
theorem h_callC0 {v : Int} (C : HCtrC w mean mg mb lvl f vs [] (fun r news' => news' = [] ∧ ∃ t, r = .int v t)) {A A₀ : Around} {env : Env} {outer : List Env} {base h₀ : Heap} {L : Addr} {m : Str → Option Value} {s : Shared} {news : Led} {Q E : Value → Shared → Prop}
    (B : Below A₀ base outer h₀) (F : Fr h₀ L s.heap m) (X : (Mine.hd.heap_39 w.params).In h₀) (N : News h₀ L s.heap news) (T : TopM mean mg mb h₀)
    (hh : A.handled = none) (hA : A.frames = some (env :: outer)) (hf : env.frame = some L) (hke : env.scope.kind = .function) (hd : A.depth + lvl < recursionLimit) (hu : A.units + 8 * lvl < cLine)
    (ret : ∀ h' tk' t, Fr h₀ L h' m → News h₀ L h' news → Q (.int v t) { s with heap := h', toks := tk' }) :
    wpCl (MM w) A (call (.ref f) vs) Q E s := by
  refine h_callC C B F X N T Sels.nil hh hA hf hke hd hu ?_
  rintro r n' h' tk' F' N' _ ⟨rfl, t, rfl⟩
  exact ret h' tk' t F' N'
end
end
section
open PySem PySem.W PyProof.Rows PySem.Calls

namespace BF
theorem mro : mroOf (.type "bytearray") = pure [.type "bytearray", .type "object"] := by rw [mroOf_type]; kernel_rfl
theorem lookup_new : typeLookup (.type "bytearray") "__new__" = pure (some (.builtin "bytearray.__new__")) := by rw [typeLookup_type, builtinLookup_eq_fast]; kernel_rfl
theorem slot_init : Slot "bytearray" "__init__" "bytearray.__init__" :=
  .of (owner := "bytearray") (n := "__init__") (by rw [typeLookup_type, builtinLookup_eq_fast]; kernel_rfl) (by decide +kernel) (by decide +kernel) (by decide +kernel)
    (by first | exact .inl (by decide +kernel) | exact .inr (by decide +kernel)) (by rw [isSubtype_type]; kernel_rfl)
theorem called : TypeCalled "bytearray" "bytearray.__new__" "bytearray.__init__" :=
  ⟨by decide +kernel, by decide +kernel, ⟨_, _, mro⟩, madeBy_type mro lookup_new (by decide +kernel), by decide +kernel, by rw [isSubtype_type]; kernel_rfl, slot_init⟩
theorem typeCall : checkTypeCall "bytearray" ⟨[], []⟩ = pure () := by kernel_rfl
theorem newCall : checkBuiltinCall "bytearray.__new__" ⟨[.type "bytearray"], []⟩ = pure () := by kernel_rfl
theorem plain_new : plainId "bytearray.__new__" = true := by decide +kernel
theorem plain_init : plainId "bytearray.__init__" = true := by decide +kernel
theorem entry_new : entryFor table "bytearray.__new__" = some Builtin.«list.__new__» := by
  first | exact entryFor_alias (id' := "list.__new__") (by kernel_rfl) rfl (by decide +kernel) (by kernel_rfl)
theorem entry_init : entryFor table "bytearray.__init__" = some Builtin.«bytearray.__init__» := entryFor_of_tree (by kernel_rfl)
theorem owner : Manifest.owners.lookup (String.ofList ['y', 'a', 'r', 'r', 'a', 'e', 't', 'y', 'b'].reverse) = some Manifest.sig_bytearray := by kernel_rfl
theorem args_init (a : Value) : argsOk "bytearray.__init__" ⟨[a], []⟩ := by
  unfold argsOk; rw [signature?_of (id := "bytearray.__init__") (n := ['_', '_', 't', 'i', 'n', 'i', '_', '_']) (o := ['y', 'a', 'r', 'r', 'a', 'e', 't', 'y', 'b']) (by kernel_rfl) owner]; kernel_rfl
theorem look_release : typeLookup (.type "bytearray") "__release_buffer__" = pure (some (.builtin "bytearray.__release_buffer__")) := by rw [typeLookup_type, builtinLookup_eq_fast]; kernel_rfl
theorem slot_len : Slot "bytearray" "__len__" "bytearray.__len__" :=
  .of (owner := "bytearray") (n := "__len__") (by rw [typeLookup_type, builtinLookup_eq_fast]; kernel_rfl) (by decide +kernel) (by decide +kernel) (by decide +kernel)
    (by first | exact .inl (by decide +kernel) | exact .inr (by decide +kernel)) (by rw [isSubtype_type]; kernel_rfl)
theorem entry_len : entryFor table "bytearray.__len__" = some Builtin.«bytearray.__len__» := entryFor_of_tree (by kernel_rfl)
theorem args_len (a : Value) : argsOk "bytearray.__len__" ⟨[a], []⟩ := by
  unfold argsOk; rw [signature?_of (id := "bytearray.__len__") (n := ['_', '_', 'n', 'e', 'l', '_', '_']) (o := ['y', 'a', 'r', 'r', 'a', 'e', 't', 'y', 'b']) (by kernel_rfl) owner]; kernel_rfl
theorem slot_getitem : Slot "bytearray" "__getitem__" "bytearray.__getitem__" :=
  .of (owner := "bytearray") (n := "__getitem__") (by rw [typeLookup_type, builtinLookup_eq_fast]; kernel_rfl) (by decide +kernel) (by decide +kernel) (by decide +kernel)
    (by first | exact .inl (by decide +kernel) | exact .inr (by decide +kernel)) (by rw [isSubtype_type]; kernel_rfl)
theorem entry_getitem : entryFor table "bytearray.__getitem__" = some Builtin.«bytearray.__getitem__» := entryFor_of_tree (by kernel_rfl)
theorem args_getitem (a b : Value) : argsOk "bytearray.__getitem__" ⟨[a, b], []⟩ := by
  unfold argsOk; rw [signature?_of (id := "bytearray.__getitem__") (n := ['_', '_', 'm', 'e', 't', 'i', 't', 'e', 'g', '_', '_']) (o := ['y', 'a', 'r', 'r', 'a', 'e', 't', 'y', 'b']) (by kernel_rfl) owner]; kernel_rfl
theorem plainAttrs : PlainAttrs "bytearray" :=
  ⟨⟨"bytearray.__getattribute__", by rw [typeLookup_type, builtinLookup_eq_fast]; kernel_rfl, by decide +kernel⟩, by rw [typeLookup_type, builtinLookup_eq_fast]; kernel_rfl⟩
theorem slot_extend : Slot "bytearray" "extend" "bytearray.extend" :=
  .of (owner := "bytearray") (n := "extend") (by rw [typeLookup_type, builtinLookup_eq_fast]; kernel_rfl) (by decide +kernel) (by decide +kernel) (by decide +kernel)
    (by first | exact .inl (by decide +kernel) | exact .inr (by decide +kernel)) (by rw [isSubtype_type]; kernel_rfl)
theorem type_extend : typeOf (.builtin "bytearray.extend") = pure (.type "method_descriptor") := by show builtinType _ = _; rw [builtinType_eq_fast]; kernel_rfl
theorem entry_extend : entryFor table "bytearray.extend" = some Builtin.«bytearray.extend» := entryFor_of_tree (by kernel_rfl)
theorem args_extend (a b : Value) : argsOk "bytearray.extend" ⟨[a, b], []⟩ := by
  unfold argsOk; rw [signature?_of (id := "bytearray.extend") (n := ['d', 'n', 'e', 't', 'x', 'e']) (o := ['y', 'a', 'r', 'r', 'a', 'e', 't', 'y', 'b']) (by kernel_rfl) owner]; kernel_rfl
theorem sub : isSubtype (.type "bytearray") (.type "bytearray") = pure true := by rw [isSubtype_type]; kernel_rfl
theorem bind0 : Builtin.Bytes.bindOptional "bytearray.__init__" "bytearray" ["source", "encoding", "errors"] [] [] = pure [none, none, none] := by kernel_rfl
end BF
end
section
open PySem PySem.W PyProof.Rows PySem.Calls PySem.Spec

abbrev B := BitVec 64
/-- a number of sixty-four bits as Python's int -/
def I (x : B) : Int := (x.toNat : Int)
theorem I_nn (x : B) : 0 ≤ I x := Int.natCast_nonneg _
theorem I_lt (x : B) : I x < 18446744073709551616 := by unfold I; have := x.isLt; omega
theorem I_inj {x y : B} (h : I x = I y) : x = y := BitVec.eq_of_toNat_eq (Int.ofNat.inj h)
theorem ofInt_I (x : B) : BitVec.ofInt 64 (I x) = x := by unfold I; rw [BitVec.ofInt_natCast, BitVec.ofNat_toNat, BitVec.setWidth_eq]
theorem I_ofInt (z : Int) : I (BitVec.ofInt 64 z) = z % 18446744073709551616 := by
  unfold I
  rw [BitVec.toNat_ofInt]
  have h := Int.emod_nonneg z (show (18446744073709551616 : Int) ≠ 0 by decide)
  omega
theorem I_of {z : Int} (h0 : 0 ≤ z) (h1 : z < 18446744073709551616) : z = I (BitVec.ofInt 64 z) := by rw [I_ofInt]; omega
theorem mask_I (z : Int) : Builtin.bitAnd z 18446744073709551615 = I (BitVec.ofInt 64 z) := by
  have h := kbt_mask z 64
  rw [I_ofInt]
  exact h
theorem emod_I (z : Int) : z % 18446744073709551616 = I (BitVec.ofInt 64 z) := (I_ofInt z).symm
theorem fmod_I (z : Int) : z.fmod 18446744073709551616 = I (BitVec.ofInt 64 z) := by
  rw [I_ofInt, Int.fmod_eq_emod_of_nonneg _ (by decide)]
theorem o_add (a b : Int) : BitVec.ofInt 64 (a + b) = BitVec.ofInt 64 a + BitVec.ofInt 64 b := BitVec.ofInt_add ..
theorem o_mul (a b : Int) : BitVec.ofInt 64 (a * b) = BitVec.ofInt 64 a * BitVec.ofInt 64 b := BitVec.ofInt_mul ..
theorem o_sub (a b : Int) : BitVec.ofInt 64 (a - b) = BitVec.ofInt 64 a - BitVec.ofInt 64 b := by
  rw [Int.sub_eq_add_neg, o_add, BitVec.ofInt_neg, BitVec.sub_eq_add_neg]
theorem and_I (a b : B) : Builtin.bitAnd (I a) (I b) = I (a &&& b) := by
  rw [bitAnd_pp (I_nn a) (I_nn b)]
  unfold I
  simp
theorem xor_nat (a b : B) : (a ^^^ b).toNat + (a &&& b).toNat = (a ||| b).toNat := by
  have h0 : (a ^^^ b) &&& (a &&& b) = 0#64 := by ext i; cases h1 : a[i] <;> cases h2 : b[i] <;> simp [h1, h2]
  have h1 := BitVec.toNat_add_of_and_eq_zero h0
  rw [BitVec.add_eq_or_of_and_eq_zero _ _ h0] at h1
  have h2 : (a ^^^ b) ||| (a &&& b) = a ||| b := by ext i; cases h1 : a[i] <;> cases h2 : b[i] <;> simp [h1, h2]
  rw [h2] at h1
  exact h1.symm
theorem or_nat (a b : B) : (a ||| b).toNat + (a &&& b).toNat = a.toNat + b.toNat := by
  rw [BitVec.toNat_or, BitVec.toNat_and]; exact nat_or_add_and _ _
theorem or_I (a b : B) : Builtin.bitOr (I a) (I b) = I (a ||| b) := by
  rw [bitOr_and, and_I]
  have := or_nat a b
  unfold I
  omega
theorem xor_I (a b : B) : Builtin.bitXor (I a) (I b) = I (a ^^^ b) := by
  rw [bitXor_and, and_I]
  have := or_nat a b
  have := xor_nat a b
  unfold I
  omega
theorem shr_I (a : B) (k : Nat) : (I a).fdiv (2 ^ k) = I (a >>> k) := by
  unfold I
  rw [Int.fdiv_eq_ediv_of_nonneg _ (Int.le_of_lt (kbt_pos k)), ← kbt_cast, ← Int.natCast_ediv, BitVec.toNat_ushiftRight, Nat.shiftRight_eq_div_pow]
theorem bitOr_pp {x y : Int} (hx : 0 ≤ x) (hy : 0 ≤ y) : Builtin.bitOr x y = ((x.toNat ||| y.toNat : Nat) : Int) := by
  rw [bitOr_and, bitAnd_pp hx hy]
  have := nat_or_add_and x.toNat y.toNat
  omega
def rotl (x : B) (c : Nat) : B := x <<< c ||| x >>> (64 - c)
theorem o_shl (a : B) (k : Nat) : BitVec.ofInt 64 (I a * 2 ^ k) = a <<< k := by
  unfold I
  rw [← kbt_cast, ← Int.natCast_mul, BitVec.ofInt_natCast]
  apply BitVec.eq_of_toNat_eq
  rw [BitVec.toNat_ofNat, BitVec.toNat_shiftLeft, Nat.shiftLeft_eq]
/-- the text's left_turned -/
theorem turned_I (a : B) (c d : Nat) : Builtin.bitAnd (Builtin.bitOr (I a * 2 ^ c) ((I a).fdiv (2 ^ d))) 18446744073709551615 = I (a <<< c ||| a >>> d) := by
  have h1 : (0 : Int) ≤ I a * 2 ^ c := Int.mul_nonneg (I_nn a) (Int.le_of_lt (kbt_pos c))
  rw [mask_I, shr_I, bitOr_pp h1 (I_nn _)]
  congr 1
  have e1 : (I a * 2 ^ c).toNat = a.toNat * 2 ^ c := by
    unfold I
    rw [← kbt_cast, ← Int.natCast_mul, Int.toNat_natCast]
  have e2 : (I (a >>> d)).toNat = (a >>> d).toNat := by unfold I; rw [Int.toNat_natCast]
  rw [e1, e2, BitVec.ofInt_natCast]
  apply BitVec.eq_of_toNat_eq
  rw [BitVec.toNat_ofNat, BitVec.toNat_or, BitVec.toNat_shiftLeft, Nat.shiftLeft_eq, Nat.or_mod_two_pow]
  congr 1
  exact Nat.mod_eq_of_lt (a >>> d).isLt
theorem left_I (a : B) (c : Nat) (hc : c ≤ 64) : Builtin.bitAnd (Builtin.bitOr (I a * 2 ^ Int.toNat (c : Int)) ((I a).fdiv (2 ^ (64 - (c : Int)).toNat))) (1 * 2 ^ Int.toNat 64 - 1) = I (rotl a c) := by
  have e : (64 - (c : Int)).toNat = 64 - c := by omega
  rw [Int.toNat_natCast, e]
  exact turned_I a c (64 - c)
/-- the law's own turn -/
theorem lawTurn_I (a : B) (c d : Nat) (h : c + d = 64) : I (BitVec.ofInt 64 (I a * 2 ^ c)) + (I a).fdiv (2 ^ d) = I (rotl a c) := by
  have hd : d = 64 - c := by omega
  have hc : c ≤ 64 := by omega
  subst hd
  rw [o_shl, shr_I]
  unfold rotl
  have h0 : (a <<< c) &&& (a >>> (64 - c)) = 0#64 := by
    ext i hi
    simp
    intro h1 h2 
    rw [BitVec.getLsbD_of_ge _ _ (by omega)]
  have h1 := BitVec.toNat_add_of_and_eq_zero h0
  rw [BitVec.add_eq_or_of_and_eq_zero _ _ h0] at h1
  unfold I
  omega
open PySem PySem.W PyProof.Rows PySem.Calls PySem.Spec
theorem I_bits (x : B) : Builtin.Int.intBits (I x) ≤ 64 := intBits_le_iff.mpr (by unfold I; have := x.isLt; omega)
theorem I_abs (x : B) : (I x).natAbs < 2 ^ 64 := by unfold I; have := x.isLt; omega
open PySem PySem.W PyProof.Rows PySem.Calls PySem.Spec
/-- octets as a number, the lowest first -/
def low : List Int → Int
  | [] => 0
  | k :: r => k + 256 * low r
theorem low_nn : ∀ {l : List Int}, (∀ k ∈ l, 0 ≤ k ∧ k < 256) → 0 ≤ low l
  | [], _ => Int.le_refl 0
  | k :: r, h => by
    have h1 := h k (.head _)
    have h2 := low_nn (l := r) fun x hx => h x (.tail _ hx)
    unfold low
    omega
theorem low_lt : ∀ {l : List Int}, (∀ k ∈ l, 0 ≤ k ∧ k < 256) → low l < 2 ^ (8 * l.length)
  | [], _ => by decide
  | k :: r, h => by
    have h1 := h k (.head _)
    have h2 := low_lt (l := r) fun x hx => h x (.tail _ hx)
    have e : (2 : Int) ^ (8 * (k :: r).length) = 256 * 2 ^ (8 * r.length) := by
      rw [List.length_cons, Nat.mul_add, Int.pow_add]
      have : (2 : Int) ^ (8 * 1) = 256 := by decide
      rw [this, Int.mul_comm]
    rw [e]
    unfold low
    omega
theorem low_snoc : ∀ (l : List Int) (k : Int), low (l ++ [k]) = low l + k * 2 ^ (8 * l.length)
  | [], k => by simp [low]
  | x :: r, k => by
    have ih := low_snoc r k
    have e : (2 : Int) ^ (8 * (x :: r).length) = 2 ^ (8 * r.length) * 256 := by
      rw [List.length_cons, Nat.mul_add, Int.pow_add]
      rfl
    show x + 256 * low (r ++ [k]) = x + 256 * low r + k * 2 ^ (8 * (x :: r).length)
    rw [ih, e, ← Int.mul_assoc]
    omega
theorem or_high {x k : Int} {n : Nat} (h0 : 0 ≤ x) (h1 : x < 2 ^ n) (hk : 0 ≤ k) : Builtin.bitOr x (k * 2 ^ n) = x + k * 2 ^ n := by
  have hp := kbt_pos n
  rw [bitOr_pp h0 (Int.mul_nonneg hk (Int.le_of_lt hp))]
  have e1 : (k * 2 ^ n).toNat = 2 ^ n * k.toNat := by
    rw [← kbt_cast, Int.mul_comm]
    obtain ⟨j, rfl⟩ := Int.eq_ofNat_of_zero_le hk
    rw [← Int.natCast_mul, Int.toNat_natCast, Int.toNat_natCast]
  have h2 : x.toNat < 2 ^ n := by
    have := kbt_cast n
    omega
  have h3 := Nat.two_pow_add_eq_or_of_lt h2 k.toNat
  rw [e1, Nat.or_comm, ← h3]
  obtain ⟨j, rfl⟩ := Int.eq_ofNat_of_zero_le hk
  rw [Int.toNat_natCast, Int.natCast_add, Int.natCast_mul, kbt_cast, Int.toNat_of_nonneg h0, Int.mul_comm]
  omega
theorem low_step {ks : List Int} {bg : Int} {j : Nat} {k found : Int} (hr : ∀ k ∈ ks, 0 ≤ k ∧ k < 256) (hb : 0 ≤ bg) (hj : bg + j < ks.length) (hk : k = 0 + (j : Int)) (hf : found = low ((ks.drop bg.toNat).take j)) :
    Builtin.bitOr found (ks.getD (bg + k).toNat 0 * 2 ^ (8 * k).toNat) = low ((ks.drop bg.toNat).take (j + 1)) := by
  have e0 : (bg + k).toNat = bg.toNat + j := by omega
  have e1 : (8 * k).toNat = 8 * j := by omega
  have hl : bg.toNat + j < ks.length := by omega
  have e2 : (ks.drop bg.toNat)[j]? = some (ks.getD (bg.toNat + j) 0) := by
    rw [List.getElem?_drop, List.getD_eq_getElem?_getD, List.getElem?_eq_getElem hl]; rfl
  have hin : ∀ x ∈ (ks.drop bg.toNat).take j, 0 ≤ x ∧ x < 256 := fun x hx => hr x (List.mem_of_mem_drop (List.mem_of_mem_take hx))
  have hlen : ((ks.drop bg.toNat).take j).length = j := by rw [List.length_take, List.length_drop]; omega
  have hk0 : 0 ≤ ks.getD (bg.toNat + j) 0 := (hr _ (by rw [List.getD_eq_getElem?_getD, List.getElem?_eq_getElem hl]; exact List.getElem_mem hl)).1
  have h1 := low_lt hin
  rw [hlen] at h1
  rw [e0, e1, hf, or_high (low_nn hin) h1 hk0, List.take_add_one, e2]
  have h2 := low_snoc ((ks.drop bg.toNat).take j) (ks.getD (bg.toNat + j) 0)
  rw [hlen] at h2
  exact h2.symm
theorem low_I {l : List Int} (h : ∀ k ∈ l, 0 ≤ k ∧ k < 256) (hl : l.length ≤ 8) : low l = I (BitVec.ofInt 64 (low l)) := by
  refine I_of (low_nn h) ?_
  have h1 := low_lt h
  have h2 : (2 : Int) ^ (8 * l.length) ≤ 2 ^ 64 := by
    rw [← kbt_cast, ← kbt_cast]
    exact Int.ofNat_le.mpr (Nat.pow_le_pow_right (by decide) (by omega))
  omega
end
section
open PySem PySem.W PyProof.Rows PySem.Calls

open Builtin
abbrev baOf (b : Array UInt8) : Obj := { cls := .type "bytearray", data := .bytearray b }
theorem ba_payload {M : Model} {A : Around} {E : Value → Shared → Prop} {s : Shared} {a : Addr} {b : Array UInt8} {Q : Array UInt8 → Shared → Prop} (h : s.heap.get? a = some (baOf b)) (q : Q b s) : wpAny M A (Bytes.payload (.ref a)) Q E s := by
  unfold Bytes.payload Bytes.payload?
  exact wpAny_bind (wpAny_bind (wpAny_load h (wpAny_pure (wpAny_pure q))))
theorem meets_ba_len (a : Addr) (b : Array UInt8) : Meets («bytearray.__len__» ⟨[.ref a], []⟩) (fun _ R s => s.heap.get? a = some (baOf b) ∧ R (.ok (.ret (.int b.size s.toks))) { s with toks := s.toks + 1 }) := by
  refine .of_wp fun prog w A R s hS => ?_
  obtain ⟨ho, h⟩ := hS
  show wpAny _ _ (Bytes.payload (.ref a) >>= fun b => retInt b.size) _ _ s
  refine wpAny_bind (ba_payload ho ?_)
  exact wpAny_bind (wpAny_mkInt (wpAny_pure ⟨_, rfl, h⟩))
theorem meets_ba_item (a : Addr) (b : Array UInt8) (i : Int) (u : Tok) (c : UInt8) : Meets («bytearray.__getitem__» ⟨[.ref a, .int i u], []⟩)
    (fun _ R s => s.heap.get? a = some (baOf b) ∧ Bytes.fitsIndex i = true ∧ (seqIndex? i b.size).bind (b[·]?) = some c ∧ R (.ok (.ret (.int c.toNat s.toks))) { s with toks := s.toks + 1 }) := by
  refine .of_wp fun prog w A R s hS => ?_
  obtain ⟨ho, hr, hi, h⟩ := hS
  show wpAny _ _ (Bytes.subscript? (.int i u) >>= fun r => _) _ _ s
  refine wpAny_bind ?_
  unfold Bytes.subscript?
  refine wpAny_bind (wpAny_specialOf (typeIs_int s i u) F.slot_int_index.lookup ?_)
  show wpAny _ _ (if (!Bytes.fitsIndex i) = true then _ else pure (some i)) _ _ s
  rw [hr]
  refine wpAny_pure ?_
  show wpAny _ _ (Bytes.payload (.ref a) >>= fun b => _) _ _ s
  refine wpAny_bind (ba_payload ho ?_)
  rw [hi]
  exact wpAny_bind (wpAny_mkInt (wpAny_pure ⟨_, rfl, h⟩))
section
variable {prog : Program} {w : World} {A : Around} {E : Value → Shared → Prop} {s : Shared} {a : Addr} {b : Array UInt8}
theorem len_ba {Q : Value → Shared → Prop} (ho : s.heap.get? a = some (baOf b)) (hfit : b.size ≤ 1099511627776) (h : Q (.int b.size (s.toks + 1)) { s with toks := s.toks + 1 + 1 }) : wpAny (model prog w) A (call (.builtin "len") [.ref a]) Q E s :=
  call_len_meets (v := .ref a) (n := (b.size : Int)) ⟨_, ho, rfl⟩ BF.slot_len BF.entry_len (BF.args_len _) (meets_ba_len a b) (by omega) (by omega) (fun Q' hq => ⟨ho, hq⟩) h
theorem getItem_ba {i : Int} {u : Tok} {Q : Value → Shared → Prop} (ho : s.heap.get? a = some (baOf b)) (hfit : b.size ≤ 1099511627776) (h0 : 0 ≤ i) (h1 : i < b.size)
    (h : ∀ t k, Q (.int ((KBw.bInts b).getD i.toNat 0) t) { s with toks := k }) : wpAny (model prog w) A (getItem (.ref a) (.int i u)) Q E s := by
  have hl : i.toNat < b.size := by omega
  refine getItem_meets (T := "bytearray") ⟨_, ho, rfl⟩ (by decide) BF.slot_getitem BF.entry_getitem (BF.args_getitem _ _) (meets_ba_item a b i u b[i.toNat]) ⟨ho, ?_, ?_, ?_⟩
  · simp only [Bytes.fitsIndex, Bool.and_eq_true, decide_eq_true_eq]; omega
  · have e : seqIndex? i b.size = some i.toNat := by
      have hn : ¬ i < 0 := by omega
      simp [seqIndex?, hn, h0, h1]
    rw [e]; simp [hl]
  · have e : ((b[i.toNat].toNat : Nat) : Int) = (KBw.bInts b).getD i.toNat 0 := by
      rw [List.getD_eq_getElem?_getD, KBw.ints_get (Array.getElem?_eq_getElem hl)]; rfl
    rw [e]; exact h _ _
end
end
section
open PySem PySem.W PyProof.Rows PySem.Calls

open Builtin
open Sem (wp)
theorem exported_cl {M : Model} {A : Around} {E : Value → Shared → Prop} {s : Shared} {self : Value} {Q : Bool → Shared → Prop} (h : Q false s) : wpCl M A (Bytes.exported self) Q E s := by
  intro Γ p hΓ hc
  unfold Bytes.exported
  rw [Sem.wp_bind']
  show wp M Γ (Sem.stack Sem.pure) _ _ p s
  rw [Sem.wp_stack, Sem.wp_pure, Sem.wp_pure']
  have hl : badL ((Γ.code, p) :: Γ.below) = false := by rw [badL_cons, hc.1, hc.2]; rfl
  generalize (Γ.code, p) :: Γ.below = st at hl ⊢
  suffices hs : ∀ x ∈ st, _ = false by
    rw [List.any_eq_false.mpr (fun x hx => ne_true_of_eq_false (hs x hx))]
    exact h
  intro x hx
  have hb : badC x.1 = false := by
    unfold badL at hl
    exact Bool.not_eq_true _ ▸ (List.any_eq_false.mp hl x hx)
  obtain ⟨c, q⟩ := x
  dsimp only at hb
  cases c
  case builtin id args =>
    unfold badC at hb
    dsimp only at hb
    rw [Bool.or_eq_false_iff] at hb
    obtain ⟨b1, b2⟩ := hb
    have ne : ∀ z : String, (["bytearray.__contains__", "bytearray.__mod__", "bytearray.__rmod__", "_struct.pack_into.held", "bytearray.find.held"] : List String).contains z = true → id ≠ z := fun z hz e => by
      rw [e, hz] at b2; cases b2
    obtain ⟨pos, kw⟩ := args
    delta Bytes.exported.match_1
    dsimp only
    with_unfolding_all show dite (id = "bytearray.__contains__") _ _ = false
    rw [dif_neg (ne _ (by decide)), dif_neg (ne _ (by decide)), dif_neg (ne _ (by decide)), dif_neg (ne _ (by decide)), dif_neg (ne _ (by decide))]
    cases pos with
    | nil => rfl
    | cons v r => show (Bytes.sameRef v self && Bytes.decodersThatHold.contains id) = false; rw [b1, Bool.and_false]
  all_goals rfl
end
section
open PySem PySem.W PyProof.Rows PySem.Calls

open Builtin
open Sem (wp)
section
variable {prog : Program} {w : World} {A : Around} {E : Value → Shared → Prop} {s : Shared} {R : Result → Shared → Prop}
theorem cl_builtin {id : String} {args : Args} {b : Builtin} (hbad : badC (.builtin id args) = false) (hb : entryFor table id = some b)
    (h : wpCl (model prog w) (A.under (.builtin id args)) (b args)
      (fun fin s' => match fin with | .done f => R (.ok f) s' | .again c' => c'.quiet = true ∧ codeCl (model prog w) A c' R s') (fun e s' => R (.error e) s') s) :
    codeCl (model prog w) A (.builtin id args) R s := by
  refine codeCl_of_tree hbad ?_
  show wpCl _ _ (match entryFor table id with | some b => b args | none => unsupported ((withoutEnding? id "#data").getD id)) _ _ s
  rw [hb]; exact h
theorem cl_call_builtin {id : String} {args : Args} {b : Builtin} (hq : plainId id = true) (hbad : badC (.builtin id args) = false) (hb : entryFor table id = some b)
    (h : wpAny (model prog w) A.in1 (checkBuiltinCall id args) (fun _ s₁ => wpCl (model prog w) A.in1 (b args)
      (fun fin s' => match fin with | .done f => R (.ok f) s' | .again c' => c'.quiet = true ∧ codeCl (model prog w) A c' R s') (fun e s' => R (.error e) s') s₁)
      (fun e s' => R (.error e) s') s) : codeCl (model prog w) A (.call (.builtin id) args) R s := by
  refine codeCl_of_tree rfl ?_
  show wpCl _ A.in1 (do checkBuiltinCall id args; again (.builtin id args)) _ _ s
  refine cl_bindA (wpAny_mono h (fun _ s₁ h₁ => cl_pure ⟨plainId_quiet hq args, cl_builtin hbad hb ?_⟩) fun _ _ e => e)
  rw [Around.under_plainId hq args]
  exact h₁
set_option maxRecDepth 1000000 in
theorem owner_new : ("bytearray.__new__".splitOn ".__new__").headD "" = "bytearray" := by simp +decide [String.splitOn, String.splitOnAux]

theorem code_ba_new {Q₁ : Value → Shared → Prop} (h : Q₁ (.ref s.heap.objs.size) { s with heap := s.heap.push (baOf #[]) }) :
    codeAny (model prog w) A (.call (.builtin "bytearray.__new__") ⟨[.type "bytearray"], []⟩) (wants Q₁ E) s := by
  refine codeAny_of_tree ?_
  show wpAny _ A.in1 (do checkBuiltinCall "bytearray.__new__" ⟨[.type "bytearray"], []⟩; again (.builtin "bytearray.__new__" ⟨[.type "bytearray"], []⟩)) _ _ s
  refine wpAny_bind (wpAny_of_eq BF.newCall (wpAny_pure ⟨plainId_quiet BF.plain_new _, codeAny_builtin_stack BF.entry_new rfl fun p st => ?_⟩))
  rw [Around.under_plainId BF.plain_new _]
  have hsub := BF.sub
  have hown := owner_new
  obtain ⟨hp, g, d, tk, os⟩ := s
  simp only [hown]
  wp_walk
  exact h

theorem ba_update {M : Model} {Q : Unit → Shared → Prop} {a : Addr} {b : Array UInt8} {f : Array UInt8 → Array UInt8} (ho : s.heap.get? a = some (baOf b)) (hz : (f b).size ≤ sizeLine)
    (h : ∀ h', h'.get? a = some (baOf (f b)) → Heap.SameBut a s.heap h' → Q () { s with heap := h' }) : wpAny M A (Bytes.write (.ref a) f) Q E s := by
  show wpAny _ _ (updateBytearray a f) _ _ _
  unfold updateBytearray
  refine wpAny_bind (wpAny_load ho ?_)
  show wpAny _ _ (update a (Obj.mapBytearray f) >>= fun _ => lookBehind a) _ _ _
  refine wpAny_bind (wpAny_update ho ?_)
  have h₂ : (s.heap.update a (Obj.mapBytearray f)).get? a = some (baOf (f b)) := Heap.get?_update_self (Obj.mapBytearray f) ho rfl
  refine wpAny_lookBehind h₂ ?_ (h _ h₂ (Heap.SameBut.update ..))
  show (if (f b).size > sizeLine then some "bytearray:memory" else none) = none
  rw [if_neg (Nat.not_lt.mpr hz)]

theorem ba_exports {M : Model} {Q : Nat → Shared → Prop} {a : Addr} {b : Array UInt8} (ho : s.heap.get? a = some (baOf b)) (h : Q 0 s) : wpAny M A (Bytes.exportsOf (.ref a)) Q E s := by
  unfold Bytes.exportsOf
  exact wpAny_bind (wpAny_load ho (wpAny_pure h))

theorem ba_held {M : Model} {Q : Bool → Shared → Prop} {a : Addr} {b : Array UInt8} (ho : s.heap.get? a = some (baOf b)) (h : Q false s) :
    wpCl M A (Bytes.exported (.ref a) <||> (do return (← Bytes.exportsOf (.ref a)) > 0)) Q E s := by
  unfold orM
  refine cl_bind (exported_cl ?_)
  show wpCl M A (Bytes.exportsOf (.ref a) >>= fun n => pure (decide (n > 0))) Q E s
  exact cl_bindA (ba_exports ho (cl_pure h))
end
end
section
open PySem PySem.W PyProof.Rows PySem.Calls

open Builtin
open Sem (wp)
section
variable {prog : Program} {w : World} {A : Around} {E : Value → Shared → Prop} {s : Shared} {R : Result → Shared → Prop}
theorem ba_release {M : Model} {Q : Bool → Shared → Prop} {a : Addr} {b : Array UInt8} (ho : s.heap.get? a = some (baOf b)) (h : Q false s) : wpAny M A (Bytes.ownRelease (.ref a)) Q E s := by
  have hT : s.TypeIs (.ref a) "bytearray" := ⟨_, ho, rfl⟩
  unfold Bytes.ownRelease Bytes.slotIsOwn
  refine wpAny_bind (wpAny_bind (wpAny_specialOf hT BF.look_release ?_))
  dsimp only
  refine wpAny_ite (KBy.ite_no (by decide +kernel) ?_)
  have e : (String.dropRight "bytearray.__release_buffer__" ("__release_buffer__".length + 1)) = "bytearray" := by decide +kernel
  rw [e]
  refine wpAny_isInstance hT BF.sub ?_
  exact wpAny_pure h
theorem badC_id {id : String} {args : Args} (h : badC (.builtin id {}) = false) : badC (.builtin id args) = false := h
theorem cl_ba_init {a : Addr} {b : Array UInt8} {Q : Fin → Shared → Prop} (ho : s.heap.get? a = some (baOf b))
    (h : ∀ h', h'.get? a = some (baOf #[]) → Heap.SameBut a s.heap h' → Q (.done (.ret .none)) { s with heap := h' }) :
    wpCl (model prog w) A («bytearray.__init__» ⟨[.ref a], []⟩) Q E s := by
  unfold «bytearray.__init__»
  refine cl_bindA (ba_release ho ?_)
  refine cl_ite_neg Bool.false_ne_true ?_
  refine cl_bindA (wpAny_of_eq BF.bind0 ?_)
  refine cl_bindA (wpAny_of_eq (a := ()) rfl ?_)
  refine cl_bindA (wpAny_of_eq (a := ()) rfl ?_)
  refine cl_bind (ba_held ho ?_)
  refine cl_ite_neg Bool.false_ne_true ?_
  refine cl_bindA (ba_update (f := fun _ => #[]) ho (Nat.zero_le _) fun h' hb hs => ?_)
  exact cl_any (wpAny_pure (h h' hb hs))
end
end
section
open PySem PySem.W PyProof.Rows PySem.Calls

open Builtin
open Sem (wp)
section
variable {prog : Program} {w : World} {A : Around} {E : Value → Shared → Prop} {s : Shared} {R : Result → Shared → Prop}
theorem typeCall_ba : «type.__call__» ⟨[.type "bytearray"], []⟩ = (do
    let obj ← holding [.builtin "bytearray.__new__"] (call (.builtin "bytearray.__new__") [.type "bytearray"] [])
    if !(← isInstance obj (.type "bytearray")) then rule "type.call.new-gave-other-type"; return ← ret obj
    match ← holding [obj] (callSpecial? obj "__init__" [] []) with
    | none => ret obj
    | some r =>
      if r != .none then
        rule "type.call.init-returned-value"
        raiseError "TypeError" s!"__init__() should return None, not '{← typeNameOf r}'"
      ret obj) := by
  unfold «type.__call__»
  have h1 := BF.called.notType
  have h2 := BF.called.canCreate
  simp only [h1, h2, BF.typeCall, BF.mro, BF.called.made, pure_bind, Bool.false_eq_true, if_false, List.isEmpty_cons]
  rfl
theorem cl_new_ba {Q : Value → Shared → Prop} (h : ∀ h', (∀ b o, s.heap.get? b = some o → h'.get? b = some o) → h'.get? s.heap.objs.size = some (baOf #[]) → Q (.ref s.heap.objs.size) { s with heap := h' }) :
    wpCl (model prog w) A (call (.type "bytearray") []) Q E s := by
  refine cl_call (codeCl_of_tree rfl ?_)
  show wpCl _ _ (again (.builtin "type.__call__" ⟨[.type "bytearray"], []⟩)) _ _ s
  refine cl_pure ⟨Code.quiet_builtin _ (by decide +kernel), cl_builtin (by decide +kernel) F.entry_type_call ?_⟩
  rw [Around.under_plain (weight_type_call_type "bytearray" [] []) rfl]
  rw [typeCall_ba]
  have ho : (s.heap.push (baOf #[])).get? s.heap.objs.size = some (baOf #[]) := Heap.get?_push_size _ rfl
  have hT : ({ s with heap := s.heap.push (baOf #[]) } : Shared).TypeIs (.ref s.heap.objs.size) "bytearray" := ⟨_, ho, rfl⟩
  refine cl_bindA (wpAny_holding (wpAny_call (code_ba_new ?_)))
  refine cl_bindA (wpAny_isInstance hT BF.sub ?_)
  refine cl_ite_neg Bool.false_ne_true ?_
  have hq : wpCl (model prog w) A.in1 (callSpecial? (.ref s.heap.objs.size) "__init__" [] []) (fun r s' => r = some .none ∧ Q (.ref s.heap.objs.size) s') E { s with heap := s.heap.push (baOf #[]) } := by
    unfold callSpecial?
    refine cl_bindA (wpAny_specialOf hT BF.slot_init.lookup ?_)
    refine cl_holding ?_
    rw [BF.slot_init.bind]
    refine cl_bindA (wpAny_pure ?_)
    refine cl_bind (cl_call (cl_call_builtin BF.plain_init (badC_id (by decide +kernel)) BF.entry_init (BF.slot_init.check _ _ _ _ _ _ _ _ hT (BF.args_init _) ?_)))
    refine cl_ba_init (s := { s with heap := s.heap.push (baOf #[]) }) (a := s.heap.objs.size) (b := #[]) ho fun h' hb hs => ?_
    exact cl_pure ⟨rfl, h h' (fun b o e => hs.extBut b o (Nat.ne_of_lt (Heap.lt_size e)) (Heap.get?_push_of_some _ e)) hb⟩
  refine cl_bind (cl_holding (cl_mono hq (fun r s' hr => ?_) fun _ _ e => e))
  obtain ⟨rfl, hr⟩ := hr
  exact cl_pure hr
end
end
section
open PySem PySem.W PyProof.Rows PySem.Calls

open Builtin
open Sem (wp)
theorem take_bytes (x : Array UInt8) (t : Tok) : Bytes.takeBufferQuiet? "bytearray.extend" (.bytes x t) 0 = pure (some (x, none)) := by
  unfold Bytes.takeBufferQuiet? Bytes.takeBuffer?
  rw [KBy.special_eq KBy.look_buffer]
  have e : ((0 : Int) == Bytes.fullReadOnly) = false := by decide +kernel
  simp only [pure_bind, KBy.own_buffer, e, KBy.buffer_eq, Bool.not_true, Bool.false_eq_true, if_false]
  rfl
section
variable {prog : Program} {w : World} {A : Around} {E : Value → Shared → Prop} {s : Shared} {R : Result → Shared → Prop}
theorem cl_ba_extend {a : Addr} {b x : Array UInt8} {t : Tok} {Q : Fin → Shared → Prop} (ho : s.heap.get? a = some (baOf b)) (hz : b.size + x.size ≤ 16777216)
    (h : ∀ h', h'.get? a = some (baOf (b ++ x)) → Heap.SameBut a s.heap h' → Q (.done (.ret .none)) { s with heap := h' }) :
    wpCl (model prog w) A («bytearray.extend» ⟨[.ref a, .bytes x t], []⟩) Q E s := by
  unfold «bytearray.extend»
  refine cl_bindA (wpAny_of_eq (a := (Value.ref a, Value.bytes x t)) rfl ?_)
  refine cl_bindA (wpAny_of_eq (KBy.special_eq KBy.look_buffer) ?_)
  show wpCl _ _ (rule _ >>= fun _ => _) _ _ _
  refine cl_bindA (wpAny_rule ?_)
  refine cl_bindA (ba_payload ho ?_)
  refine cl_bindA (wpAny_of_eq (take_bytes x t) ?_)
  show wpCl _ _ (if (!x.isEmpty) = true then (Bytes.checkResize (.ref a) >>= fun _ => Bytes.write (.ref a) (· ++ x) >>= fun _ => ret .none) else (Bytes.write (.ref a) (· ++ x) >>= fun _ => ret .none)) _ _ _
  have fin : wpCl (model prog w) A (Bytes.write (.ref a) (· ++ x) >>= fun _ => ret .none) Q E s := by
    refine cl_bindA (ba_update (f := (· ++ x)) ho (by rw [Array.size_append, sizeLine_eq]; exact hz) fun h' hb hs => ?_)
    exact cl_pure (h h' hb hs)
  by_cases hx : (!x.isEmpty) = true
  · rw [if_pos hx]
    refine cl_bind ?_
    unfold Bytes.checkResize
    refine cl_bind (ba_held ho ?_)
    refine cl_ite_neg Bool.false_ne_true ?_
    exact cl_pure fin
  · rw [if_neg hx]
    exact fin
theorem cl_extend {a : Addr} {b x : Array UInt8} {t : Tok} {Q : Value → Shared → Prop} (ho : s.heap.get? a = some (baOf b)) (hz : b.size + x.size ≤ 16777216)
    (h : ∀ h', h'.get? a = some (baOf (b ++ x)) → Heap.SameBut a s.heap h' → Q .none { s with heap := h' }) :
    wpCl (model prog w) A (call (.builtin "bytearray.extend") [.ref a, .bytes x t]) Q E s := by
  have hT : s.TypeIs (.ref a) "bytearray" := ⟨_, ho, rfl⟩
  refine cl_call (cl_call_builtin BF.slot_extend.plain (badC_id (by decide +kernel)) BF.entry_extend (BF.slot_extend.check _ _ _ _ _ _ _ _ hT (BF.args_extend _ _) ?_))
  exact cl_ba_extend ho hz fun h' hb hs => h h' hb hs
end
end
section
open PySem PySem.W PyProof.Rows PySem.Calls

open Builtin
theorem meets_ba_slice (a : Addr) (b : Array UInt8) (q : Addr) {l u : Value} {lo hi : Option Int} (hl : IsPart l lo) (hu : IsPart u hi) :
    Meets («bytearray.__getitem__» ⟨[.ref a, .ref q], []⟩) (fun _ R s => s.heap.get? a = some (baOf b) ∧ s.heap.IsSliceOf q l u .none ∧ (KBy.picked b lo hi).size ≤ sizeLine ∧ R (.ok (.ret (.ref s.heap.objs.size))) { s with heap := s.heap.push (baOf (KBy.picked b lo hi)) }) := by
  refine .of_wp fun prog w A R s hS => ?_
  obtain ⟨hb, ⟨o, ho, hc, hd⟩, hsz, h⟩ := hS
  have hT : s.TypeIs (.ref q) "slice" := ⟨o, ho, hc⟩
  show wpAny _ _ (Bytes.subscript? (.ref q) >>= fun r => _) _ _ s
  refine wpAny_bind ?_
  unfold Bytes.subscript?
  refine wpAny_bind (wpAny_specialOf hT slice_no_index (wpAny_pure ?_))
  refine wpAny_bind (wpAny_typeOf hT ?_)
  show wpAny _ _ (Bytes.sliceParts (.ref q) >>= fun r => _) _ _ s
  refine wpAny_bind ?_
  unfold Bytes.sliceParts
  refine wpAny_bind (wpAny_field (x := .none) ho hd rfl ?_)
  kby_none
  refine wpAny_ite (KBy.ite_no (show ¬ ((Value.none == rawInt 0) = true) from Bool.false_ne_true) ?_)
  refine wpAny_bind (wpAny_field (x := l) ho hd rfl ?_)
  have go : wpAny (model prog w) A.in1 (sliceIndices (rawPart lo) (rawPart hi) (rawPart none) b.size) (fun r s' => r = sliceBounds lo hi none b.size ∧ s' = s) (fun _ _ => False) s :=
    wpAny_of_eq (sliceIndices_raw lo hi none b.size (fun e => nomatch e)) ⟨rfl, rfl⟩
  cases hl <;> cases hu <;> (first
    | (kby_none; (refine wpAny_bind (wpAny_field (x := .none) ho hd rfl ?_)); kby_none)
    | (kby_none; (refine wpAny_bind (wpAny_field (x := .int _ _) ho hd rfl ?_)); kby_int)
    | (kby_int; (refine wpAny_bind (wpAny_field (x := .none) ho hd rfl ?_)); kby_none)
    | (kby_int; (refine wpAny_bind (wpAny_field (x := .int _ _) ho hd rfl ?_)); kby_int)) <;> refine wpAny_pure ?_
  all_goals
    refine wpAny_bind (ba_payload hb ?_)
    refine wpAny_bind (wpAny_mono go (fun r s' hr => ?_) fun _ _ e => e.elim)
    obtain ⟨hr1, hr2⟩ := hr
    subst hr1 hr2
    refine wpAny_bind ?_
    unfold Bytes.newBytearray
    refine wpAny_newObj_type ?_ hsz
    exact wpAny_pure ⟨_, rfl, h⟩
section
variable {prog : Program} {w : World} {A : Around} {E : Value → Shared → Prop} {s : Shared} {value slice : PySem.Expr} {a : Addr} {b : Array UInt8} {h₀ : Heap} {L : Addr} {m : Str → Option Value} {news : List (Addr × Obj)} {l u : Value} {lo hi : Option Int} {Q : Value → Shared → Prop}
theorem item_baK {i : Int} {ui : Tok} (ho : s.heap.get? a = some (baOf b)) (hfit : b.size ≤ 1099511627776) (h0 : 0 ≤ i) (h1 : i < b.size)
    (h : ∀ t k, 0 ≤ (KBw.bInts b).getD i.toNat 0 → (KBw.bInts b).getD i.toNat 0 < 256 → Q (.int ((KBw.bInts b).getD i.toNat 0) t) { s with toks := k })
    (hs : subscripted slice false (.ref a) (.int i ui) = operate [.ref a, .int i ui] (getItem (.ref a) (.int i ui)) := by with_unfolding_all rfl) :
    wpAny (model prog w) A (subscriptTail value slice (.ref a) (.int i ui)) Q E s :=
  tail_any (T := "bytearray") ⟨_, ho, rfl⟩ BF.slot_getitem.lookup (getItem_ba ho hfit h0 h1 fun t k => h t k (KBw.getD_in fun k hk => KBw.ints_in hk).1 (KBw.getD_in fun k hk => KBw.ints_in hk).2) hs
theorem slice_baK (hF : Fr h₀ L s.heap m) (hN : News h₀ L s.heap news) (hm : (a, baOf b) ∈ news) (hl : IsPart l lo) (hu : IsPart u hi) (hz : b.size ≤ 16777216)
    (h : ∀ h' x, Fr h₀ L h' m → News h₀ L h' ((x, baOf (KBy.picked b lo hi)) :: news) → (∀ p ∈ news, p.1 < x) → Q (.ref x) { s with heap := h' })
    (hs : subscripted slice false (.ref a) (.ref s.heap.objs.size) = operate [.ref s.heap.objs.size, .ref a] (getItem (.ref a) (.ref s.heap.objs.size)) := by with_unfolding_all rfl) :
    wpAny (model prog w) A (subscriptTail value slice (.ref a) (.ref s.heap.objs.size)) Q E { s with heap := s.heap.push { cls := .type "slice", data := .fields #[l, u, .none] } } := by
  have ho : (s.heap.push { cls := .type "slice", data := .fields #[l, u, .none] }).get? a = some (baOf b) := Heap.get?_push_of_some _ (hN.get hm)
  refine tail_any (T := "bytearray") ⟨_, ho, rfl⟩ BF.slot_getitem.lookup (getItem_meets (T := "bytearray") ⟨_, ho, rfl⟩ (by decide) BF.slot_getitem BF.entry_getitem (BF.args_getitem _ _) (meets_ba_slice a b _ hl hu)
    ⟨ho, Heap.IsSliceOf.new _ _ _ _, Nat.le_trans (KBc.size_picked_le b lo hi) (by rw [sizeLine_eq]; exact hz), ?_⟩) hs
  have F' := hF.push { cls := .type "slice", data := .fields #[l, u, .none] }
  have N' : News h₀ L (s.heap.push { cls := .type "slice", data := .fields #[l, u, .none] }) news := News.pushKeep hN _
  exact h _ _ (F'.push _) (N'.push F' _) fun p hp => Heap.lt_size (N' p hp).1
end
end
section
open PySem PySem.W PyProof.Rows PySem.Calls

open Builtin
section
variable {prog : Program} {w : World} {A : Around} {E : Value → Shared → Prop} {s : Shared} {R : Result → Shared → Prop} {K : Frag} {C : Addr}
theorem cl_call_builtin_at {id : String} {args : Args} {b : Builtin} (hq : (Code.builtin id args).quiet = true) (hbad : badC (.builtin id args) = false) (hb : entryFor table id = some b)
    (h : wpAny (model prog w) A.in1 (checkBuiltinCall id args) (fun _ s₁ => wpCl (model prog w) (A.under (.builtin id args)) (b args)
      (fun fin s' => match fin with | .done f => R (.ok f) s' | .again c' => c'.quiet = true ∧ codeCl (model prog w) A c' R s') (fun e s' => R (.error e) s') s₁)
      (fun e s' => R (.error e) s') s) : codeCl (model prog w) A (.call (.builtin id) args) R s := by
  refine codeCl_of_tree rfl ?_
  show wpCl _ A.in1 (do checkBuiltinCall id args; again (.builtin id args)) _ _ s
  exact cl_bindA (wpAny_mono h (fun _ s₁ h₁ => cl_pure ⟨hq, cl_builtin hbad hb h₁⟩) fun _ _ e => e)
theorem cl_make {rest : List Value} {init : Value} {h : Heap} {g : Array GenState} {d : Drawn} {t : Nat} {os : OsState} (Y : Makes (model prog w) h C) (hi : Looks (model prog w) h (typeLookup (.ref C) "__init__") (some init))
    (hb : ∀ self, Looks (model prog w) h (bindSpecial init self) (init, [self])) (hne : (some init != some (Value.builtin "object.__init__")) = true)
    (hq : codeCl (model prog w) (A.under (.builtin "type.__call__" ⟨.ref C :: rest, []⟩)) (.call init ⟨.ref (h.objs.size + 1) :: rest, []⟩) (InitBack (h.objs.size + 1) R) ⟨(h.push emptyDict).push (instObj C h.objs.size), g, d, t, os⟩) :
    codeCl (model prog w) A (.call (.ref C) ⟨rest, []⟩) R ⟨h, g, d, t, os⟩ := by
  have Y' := Y
  obtain ⟨⟨oc, od, cd, sl, hC, e1, e2, e4⟩, made, base, self, top, call, typ⟩ := Y
  refine codeCl_of_tree rfl ?_
  show wpCl _ _ (callAny (.ref C) _) _ _ _
  refine cl_any ?_
  refine nd_load hC ?_
  show wpAny _ _ (callAny.viaDunder (.ref C) _) _ _ _
  unfold callAny.viaDunder
  refine wpAny_bind (call.at ?_)
  dsimp only
  rw [tc_bind]
  refine wpAny_bind (wpAny_pure (wpAny_bind (wpAny_pure ?_)))
  refine wpAny_pure (a := Fin.again (.call (.builtin "type.__call__") ⟨.ref C :: rest, []⟩)) (And.intro rfl ?_)
  refine cl_call_builtin_at (Code.quiet_builtin _ (by decide +kernel)) (badC_id (by decide +kernel)) entry_typeCall (check_slot tc_kind tc_split typ (tc_args _ _ _) ?_)
  unfold Builtin.«type.__call__»
  have hm : Looks (model prog w) h (mroOf (.ref C)) cd.mro := ((Looks.ld (part := none) hC).andThen .now).andThen .now
  have k : ∀ b o, h.get? b = some o → ((h.push emptyDict).push (instObj C h.objs.size)).get? b = some o := fun b o e => Heap.get?_push_of_some _ (Heap.get?_push_of_some _ e)
  have hx : ((h.push emptyDict).push (instObj C h.objs.size)).get? (h.objs.size + 1) = some (instObj C h.objs.size) := by heap_get
  have t1 : Looks (model prog w) ((h.push emptyDict).push (instObj C h.objs.size)) (typeOf (.ref (h.objs.size + 1))) (.ref C) := (Looks.ld hx).andThen .now
  have s1 := self.keeps k
  have i1 := hi.keeps k
  have b1 := (hb (.ref (h.objs.size + 1))).keeps k
  refine cl_ite_neg Bool.false_ne_true ?_
  refine cl_bindA (hm.at ?_)
  refine cl_ite_neg (by rw [e4]; exact Bool.false_ne_true) ?_
  refine cl_bindA (made.at ?_)
  refine cl_bindA (wpAny_pure ?_)
  refine cl_bindA (wpAny_holding (wpAny_call (new_K Y' hi (.inl hne) ?_)))
  refine cl_bindA ?_
  unfold isInstance
  refine wpAny_bind (t1.at (s1.at ?_))
  refine cl_ite_neg Bool.false_ne_true ?_
  refine cl_bind (cl_holding ?_)
  unfold callSpecial? specialOf
  refine cl_bindA (wpAny_bind (t1.at (i1.at ?_)))
  refine cl_holding ?_
  refine cl_bindA (b1.at ?_)
  refine cl_bind (cl_call (codeCl_mono hq fun r s' z => ?_))
  rcases r with e | (v | _ | _ | _) <;> first | exact z | exact z.elim | skip
  obtain ⟨rfl, z⟩ := z
  exact cl_pure (cl_pure z)
theorem cl_makeK {rest : List Value} {fI L : Addr} {h₀ : Heap} {m : Str → Option Value} {news : List (Addr × Obj)} {Q : Value → Shared → Prop} (F : Fr h₀ L s.heap m) (N : News h₀ L s.heap news) (X : K.In h₀) (hm : makesIn K C = true)
    (hi : findIn K (.ref C) "__init__" = some (some (.ref fI))) (hf : isFn K (.ref fI) = true)
    (h : ∀ x dx h', Fr h₀ L h' m → News h₀ L h' ((x, instObj C dx) :: (dx, dictOf [] 0) :: news) → (∀ p ∈ news, p.1 < dx) → dx < x →
      codeCl (model prog w) (A.under (.builtin "type.__call__" ⟨.ref C :: rest, []⟩)) (.call (.ref fI) ⟨.ref x :: rest, []⟩) (InitBack x fun r s' => match r with | .ok (.ret v) => Q v s' | .ok _ => False | .error e => E e s') { s with heap := h' }) :
    wpCl (model prog w) A (call (.ref C) rest) Q E s := by
  obtain ⟨hh, g, d, t, os⟩ := s
  have Xs := X.keeps F.keep
  refine cl_call (cl_make (makes_of Xs hm) (looks_findIn Xs hi) (fun self => bind_fn Xs self (beq_iff_eq.mp hf)) rfl (h _ hh.objs.size _ ((F.push _).push _) ?_ (fun p hp => Heap.lt_size (N p hp).1) (Nat.lt_succ_self _)))
  have := (N.push F emptyDict).push (F.push _) (instObj C hh.objs.size)
  rwa [Heap.size_push] at this
end
end
section
open PySem PySem.W PyProof.Rows PySem.Calls

open Builtin
section
variable {M : Model} {A : Around} {E : Value → Shared → Prop} {s : Shared} {env : Env}
/-- a statement that the library walks, then the rest in clean contexts -/
theorem cl_execs {st : Stmt} {rest : List Stmt} {Q : Flow → Shared → Prop} (h : wpAny M A (exec st env) (fun f s' => f = .next ∧ wpCl M A (execs rest env) Q E s') E s) : wpCl M A (execs (st :: rest) env) Q E s := by
  rw [execs_cons]
  refine cl_bindA (wpAny_mono h (fun f s' h' => ?_) fun _ _ e => e)
  obtain ⟨rfl, h'⟩ := h'
  exact h'
theorem cl_execsC {st : Stmt} {rest : List Stmt} {Q : Flow → Shared → Prop} (h : wpCl M A (exec st env) (fun f s' => match f with | .next => wpCl M A (execs rest env) Q E s' | f => Q f s') E s) : wpCl M A (execs (st :: rest) env) Q E s := by
  rw [execs_cons]
  refine cl_bind (cl_mono h (fun f s' h' => ?_) fun _ _ e => e)
  cases f <;> first | exact h' | exact cl_pure h'
theorem cl_execs_nil {Q : Flow → Shared → Prop} (h : Q .next s) : wpCl M A (execs [] env) Q E s := cl_any (wpAny_execs_nil h)
theorem cl_standAt {pos : Pos} {Q : Unit → Shared → Prop} (h : Q () s) : wpCl M A (standAt pos) Q E s := cl_any (wpAny_standAt h)
/-- an expression's call as a statement: it gives back None -/
theorem cl_Expr {value : Expr} {pos : Pos} {Q : Flow → Shared → Prop} (h : wpCl M A (eval value env) (fun v s' => v = .none ∧ Q .next s') E s)
    (he : exec (.Expr value pos) env = (do standAt pos; dropValue value pos (← eval value env)) := by rfl) (hd : dropValue value pos .none = pure .next := by rfl) : wpCl M A (exec (.Expr value pos) env) Q E s := by
  rw [he]
  refine cl_bindA (wpAny_standAt (cl_bind (cl_mono h (fun v s' h' => ?_) fun _ _ e => e)))
  obtain ⟨rfl, h'⟩ := h'
  rw [hd]
  exact cl_pure h'
theorem cl_Return {e : Expr} {pos : Pos} {Q : Flow → Shared → Prop} (h : wpCl M A (eval e env) (fun v => Q (.ret v)) E s) : wpCl M A (exec (.Return (some e) pos) env) Q E s := by
  rw [exec_Return_some]
  refine cl_bindA (wpAny_standAt (cl_bind (cl_mono h (fun v s' h' => cl_pure h') fun _ _ e => e)))
theorem cl_Assign1 {target value : Expr} {pos : Pos} {Q : Flow → Shared → Prop} (h : wpCl M A (eval value env) (fun v s₁ => wpAny M A (assign target env v) (fun _ => Q .next) E s₁) E s)
    (hs : swapsWithSole [target] value pos.line env = pure false := by rfl) (hw : swappedStores [target] value env = pure none := by rfl)
    (ha : (assignEach [target] env).map (·.2) = [assign target env] := by rfl) : wpCl M A (exec (.Assign [target] value pos) env) Q E s := by
  rw [exec_Assign]
  refine cl_bindA (wpAny_standAt ?_)
  rw [hs]
  refine cl_bindA (wpAny_pure ?_)
  refine cl_ite_neg (by decide) ?_
  refine cl_bind (cl_mono h (fun v s₁ h₁ => ?_) fun _ _ x => x)
  rw [hw, ha]
  refine cl_bindA (wpAny_pure ?_)
  show wpCl M A (do assignAll v [assign target env]; pure .next) Q E s₁
  exact cl_bindA (wpAny_mono h₁ (fun _ _ x => cl_pure x) fun _ _ x => x)
theorem cl_Assign_swapped {elts : List Expr} {k : Nat} {tpos : Pos} {value : Expr} {pos : Pos} {names : List Str} {Q : Flow → Shared → Prop}
    (h : wpCl M A (eval value env) (fun v s₁ => wpAny M A (unpackItems v names.length none) (fun items s₂ =>
      wpAny M A (assignInOrder (names.reverse.map fun n => bindName env n) items.reverse) (fun _ => Q .next) E s₂) E s₁) E s)
    (hs : swapsWithSole [.Tuple elts k tpos] value pos.line env = pure false := by rfl)
    (hw : swappedStores [.Tuple elts k tpos] value env = pure (some names) := by rfl) :
    wpCl M A (exec (.Assign [.Tuple elts k tpos] value pos) env) Q E s := by
  rw [exec_Assign]
  refine cl_bindA (wpAny_standAt ?_)
  rw [hs]
  refine cl_bindA (wpAny_pure ?_)
  refine cl_ite_neg (by decide) ?_
  refine cl_bind (cl_mono h (fun v s₁ h₁ => ?_) fun _ _ x => x)
  rw [hw]
  refine cl_bindA (wpAny_pure ?_)
  show wpCl M A (do rule "assign.swapped-stores"; let items ← unpackItems v names.length none; assignInOrder (names.reverse.map fun n => bindName env n) items.reverse; pure .next) Q E s₁
  exact cl_any (wpAny_bind (wpAny_rule (wpAny_bind (wpAny_mono h₁ (fun items s₂ h₂ => wpAny_bind (wpAny_mono h₂ (fun _ _ x => wpAny_pure x) fun _ _ x => x)) fun _ _ x => x))))
theorem cl_Tuple {e : Expr} {elts : List Expr} {k : Nat} {pos : Pos} {Q : Value → Shared → Prop}
    (h : wpCl M A (eval e env) (fun v s₁ => wpAny M A (spliced (backTo pos (starEach elts env))) (fun vs s₂ => wpAny M A (newTuple (v :: vs)) Q E s₂) E s₁) E s)
    (he : starEach (e :: elts) env = (false, eval e env) :: starEach elts env := by rfl) :
    wpCl M A (eval (.Tuple (e :: elts) k pos) env) Q E s := by
  show wpCl M A (do standAt pos; newTuple (← spliced (backTo pos (starEach (e :: elts) env)))) Q E s
  refine cl_bindA (wpAny_standAt ?_)
  rw [he]
  refine cl_bind ?_
  show wpCl M A (eval e env >>= fun v => (pure [v] >>= fun here => holding here (spliced (backTo pos (starEach elts env))) >>= fun r => pure (here ++ r))) _ E s
  refine cl_bind (cl_mono h (fun v s₁ h₁ => ?_) fun _ _ x => x)
  refine cl_bindA (wpAny_pure ?_)
  refine cl_bindA (wpAny_holding (wpAny_mono h₁ (fun vs s₂ h₂ => cl_pure (cl_any h₂)) fun _ _ x => x))
theorem cl_Compare1 {l r : Expr} {op : CmpOp} {pos : Pos} {Q : Value → Shared → Prop}
    (h : wpCl M A (eval l env) (fun a s₁ => wpAny M A (eval r env) (fun b s₂ => wpAny M A (compareOp op a b) Q E s₂) E s₁) E s)
    (hm : behindInMarks op r = false := by with_unfolding_all rfl) : wpCl M A (eval (.Compare l [op] [r] pos) env) Q E s := fun Γ p hΓ hc => by
  simp only [eval_Compare1, markedBehindIn_of_false hm, Sem.wp_bind', Sem.wp_holding, Sem.wp_cmd_standAt, Sem.wp_operate]
  exact Sem.wp_mono M Γ _ (fun a p₁ s₁ h₁ => Sem.wp_mono M Γ _ (fun b _ s₂ h₂ => h₂ Γ _ hΓ) (fun _ _ _ h' => h') _ _ (h₁ Γ p₁ hΓ))
    (fun _ _ _ h' => h') _ _ (h Γ p hΓ hc)
theorem cl_isTrue_Compare1 {l r : Expr} {op : CmpOp} {pos : Pos} {whole : Sem Value} {Q : Bool → Shared → Prop}
    (h : wpCl M A (eval l env) (fun a s₁ => wpAny M A (eval r env) (fun b s₂ => wpAny M A (compareOp op a b) (fun c s₃ => wpAny M A (truthy c) Q E s₃) E s₂) E s₁) E s)
    (hm : behindInMarks op r = false := by with_unfolding_all rfl) : wpCl M A (isTrue (.Compare l [op] [r] pos) env whole) Q E s := fun Γ p hΓ hc => by
  simp only [isTrue_Compare1, markedBehindIn_of_false hm, Sem.wp_bind', Sem.wp_holding, Sem.wp_cmd_standAt, Sem.wp_operate]
  exact Sem.wp_mono M Γ _ (fun a p₁ s₁ h₁ => Sem.wp_mono M Γ _ (fun b _ s₂ h₂ => Sem.wp_mono M Γ _ (fun c p₃ s₃ h₃ => h₃ Γ p₃ hΓ)
    (fun _ _ _ h' => h') _ _ (h₂ Γ _ hΓ)) (fun _ _ _ h' => h') _ _ (h₁ Γ p₁ hΓ)) (fun _ _ _ h' => h') _ _ (h Γ p hΓ hc)
theorem cl_If {test : Expr} {body orelse : List Stmt} {pos : Pos} {Q : Flow → Shared → Prop}
    (h : wpCl M A (isTrue test env (eval test env)) (fun b s₂ => if b then wpCl M A (execs body env) Q E s₂ else wpCl M A (execs orelse env) Q E s₂) E s) :
    wpCl M A (exec (.If test body orelse pos) env) Q E s := fun Γ p hΓ hc => by
  simp only [exec_If, Sem.wp_bind', Sem.wp_cmd_standAt]
  refine Sem.wp_mono M Γ _ (fun b p₂ s₂ h₂ => ?_) (fun _ _ _ h' => h') _ _ (h Γ _ hΓ hc)
  cases b <;> exact h₂ Γ p₂ hΓ hc

/-- callWith, its call in clean contexts -/
theorem cl_callWith {P : Heap → Prop} {pos : Pos} {f : Value} {first : List Value} {Q : Value → Shared → Prop} {args : List (Bool × Sem Value)} (hplain : args.any (·.1) = false)
    (hk : ∀ h, P h → ∃ k, (k = Keeper.frame ∨ k = Keeper.machine ∨ k = Keeper.boundFrame) ∧ Looks M h (keeperOf f) k)
    (h : wpAny M A (evalArgs f true args []) (fun a s₁ => P s₁.heap ∧ wpCl M A (call f (first ++ a.pos) a.kw) Q E s₁) E s) : wpCl M A (callWith pos f first args []) Q E s := by
  unfold callWith
  refine cl_bindA (wpAny_holding (wpAny_mono h (fun a s₁ h₁ => cl_bindA (wpAny_standAt ?_)) fun _ _ x => x))
  obtain ⟨k, hk', L⟩ := hk _ h₁.1
  simp only [hplain, List.any_nil, Bool.or_false]
  refine cl_bindA (L.here ?_)
  have tail : ∀ {t : Sem Value}, wpCl M A t Q E s₁ → wpCl M A (t >>= fun r => holding [r] point >>= fun _ => pure r) Q E s₁ :=
    fun ht => cl_bind (cl_mono ht (fun r s₂ hr => cl_any (wpAny_bind (wpAny_holding (wpAny_point (wpAny_pure hr))))) fun _ _ x => x)
  have marked (mk : Value) : wpCl M A (callMarked mk f (first ++ a.pos) a.kw) Q E s₁ := by unfold callMarked; exact cl_keep h₁.2
  rcases hk' with rfl | rfl | rfl <;> dsimp only <;> first | exact tail h₁.2 | (split <;> first | exact tail h₁.2 | exact tail (marked _))
theorem cl_evalCall {f : Expr} {args : List Expr} {pos : Pos} {Q : Value → Shared → Prop}
    (h : wpAny M A (eval f env) (fun fv s₁ => wpCl M A (callWith pos fv [] (backTo pos (starEach args env)) []) Q E s₁) E s)
    (he : eval (.Call f args [] pos) env = (do let fv ← eval f env; callWith pos fv [] (backTo pos (starEach args env)) []) := by rfl) : wpCl M A (eval (.Call f args [] pos) env) Q E s := by
  rw [he]
  exact cl_bindA h
theorem cl_evalMeth {o : Expr} {name : Str} {apos pos : Pos} {args : List Expr} {pl : Sem Bool} {Q : Value → Shared → Prop}
    (h : wpAny M A (eval o env) (fun ov s₁ => wpAny M A (getMethod ov name pl) (fun fx s₂ => wpCl M A (callWith pos fx.1 fx.2 (backTo pos (starEach args env)) []) Q E s₂) E s₁) E s)
    (he : eval (.Call (.Attribute o name apos) args [] pos) env = (do
      let ov ← eval o env
      standAt apos.atName
      let (f, first) ← holding [ov] (getMethod ov name pl)
      callWith pos f first (backTo pos (starEach args env)) []) := by rfl) :
    wpCl M A (eval (.Call (.Attribute o name apos) args [] pos) env) Q E s := by
  rw [he]
  exact cl_bindA (wpAny_mono h (fun ov s₁ h₁ => cl_bindA (wpAny_standAt (cl_bindA (wpAny_holding (wpAny_mono h₁ (fun fx s₂ h₂ => h₂) fun _ _ x => x))))) fun _ _ x => x)
/-- plain arguments ahead of a clean call -/
theorem cl_args {P : Heap → Prop} {pos : Pos} {f : Value} {first : List Value} {Q : Value → Shared → Prop} {e : Expr} {rest : List Expr}
    (hk : ∀ h, P h → ∃ k, (k = Keeper.frame ∨ k = Keeper.machine ∨ k = Keeper.boundFrame) ∧ Looks M h (keeperOf f) k)
    (h : wpAny M A (spliced (backTo pos (starEach (e :: rest) env))) (fun vs s₁ => P s₁.heap ∧ wpCl M A (call f (first ++ vs)) Q E s₁) E s)
    (he : starEach (e :: rest) env = (false, eval e env) :: starEach rest env := by rfl) (hplain : (backTo pos (starEach rest env)).any (·.1) = false := by rfl) :
    wpCl M A (callWith pos f first (backTo pos (starEach (e :: rest) env)) []) Q E s := by
  rw [he] at h ⊢
  exact cl_callWith (by show (false || (backTo pos (starEach rest env)).any (·.1)) = false; rw [hplain]; rfl) hk (evalArgs_plain h)
theorem cl_args0 {P : Heap → Prop} {pos : Pos} {f : Value} {first : List Value} {Q : Value → Shared → Prop} (hp : P s.heap)
    (hk : ∀ h, P h → ∃ k, (k = Keeper.frame ∨ k = Keeper.machine ∨ k = Keeper.boundFrame) ∧ Looks M h (keeperOf f) k)
    (h : wpCl M A (call f (first ++ [])) Q E s) : wpCl M A (callWith pos f first (backTo pos (starEach [] env)) []) Q E s :=
  cl_callWith rfl hk (evalArgs_nil3 ⟨hp, h⟩)
theorem machine_builtin {id : String} (h : Heap) (_ : True) : ∃ k, (k = Keeper.frame ∨ k = Keeper.machine ∨ k = Keeper.boundFrame) ∧ Looks M h (keeperOf (.builtin id)) k := ⟨.machine, .inr (.inl rfl), Looks.of_pure rfl⟩
theorem machine_type {id : String} (h : Heap) (_ : True) : ∃ k, (k = Keeper.frame ∨ k = Keeper.machine ∨ k = Keeper.boundFrame) ∧ Looks M h (keeperOf (.type id)) k := ⟨.machine, .inr (.inl rfl), Looks.of_pure rfl⟩
end
end
section
open PySem PySem.W PyProof.Rows PySem.Calls

section
variable {prog : Program} {w : World} {A : Around} {E : Value → Shared → Prop} {s : Shared} {g : Heap} {L : Addr} {m : Str → Option Value} {news rest : Led} {Q : Value → Shared → Prop}
theorem cl_new_baK (F : Fr g L s.heap m) (N : News g L s.heap news) (h : ∀ x h', Fr g L h' m → News g L h' ((x, baOf #[]) :: news) → (∀ p ∈ news, p.1 < x) → Q (.ref x) { s with heap := h' }) :
    wpCl (model prog w) A (call (.type "bytearray") []) Q E s := by
  refine cl_new_ba fun h' hk ho => h _ h' ⟨?_, fun b o e => hk b o (F.keep b o e), F.above⟩ ?_ (fun p hp => Heap.lt_size (N p hp).1)
  · obtain ⟨oL, es, ep, hL, hr⟩ := F.ns
    exact ⟨oL, es, ep, hk _ _ hL, hr⟩
  · intro p hp
    rcases List.mem_cons.mp hp with rfl | hp
    · refine ⟨ho, ?_, ?_⟩
      · obtain ⟨oL, es, ep, hL, hr⟩ := F.ns
        exact Nat.ne_of_gt (Heap.lt_size hL)
      · cases q : g.get? s.heap.objs.size with
        | none => rfl
        | some o => exact absurd (Heap.lt_size (F.keep _ _ q)) (Nat.lt_irrefl _)
    · exact ⟨hk _ _ (N p hp).1, (N p hp).2⟩
theorem cl_extendK {a : Addr} {b x : Array UInt8} {t : Tok} (F : Fr g L s.heap m) (N : News g L s.heap news) (hS : Sel a (baOf b) news rest) (hz : b.size + x.size ≤ 16777216)
    (h : ∀ h', Fr g L h' m → News g L h' ((a, baOf (b ++ x)) :: rest) → Q .none { s with heap := h' }) :
    wpCl (model prog w) A (call (.builtin "bytearray.extend") [.ref a, .bytes x t]) Q E s := by
  obtain ⟨s1, s2⟩ := hS.spec
  have Na := N _ s1
  refine cl_extend Na.1 hz fun h' hb hs => h h' ⟨?_, fun b' o e => ?_, F.above⟩ ?_
  · obtain ⟨oL, es, ep, hL, hr⟩ := F.ns
    exact ⟨oL, es, ep, hs.extBut _ _ (Ne.symm Na.2.1) hL, hr⟩
  · refine hs.extBut _ _ (fun q => ?_) (F.keep b' o e)
    have := Na.2.2; rw [← q, e] at this; cases this
  · intro p hp
    rcases List.mem_cons.mp hp with rfl | hp
    · exact ⟨hb, Na.2⟩
    · exact ⟨hs.extBut _ _ (s2 p hp).2 (N p (s2 p hp).1).1, (N p (s2 p hp).1).2⟩
theorem method_extend {a : Addr} {b : Array UInt8} {pl : Sem Bool} {Q : Value × List Value → Shared → Prop} (N : News g L s.heap news) (hm : (a, baOf b) ∈ news) (h : Q (.builtin "bytearray.extend", [.ref a]) s) :
    wpAny (model prog w) A (getMethod (.ref a) "extend" pl) Q E s := by
  have ho := (N _ hm).1
  exact getMethod_builtin ⟨_, ho, rfl⟩ BF.plainAttrs BF.slot_extend BF.type_extend (fun c e => by injection e with e; subst e; exact ⟨_, ho, rfl⟩) h
theorem picked_0 (b : Array UInt8) : KBy.picked b (some 0) none = b := by
  rw [KBc.picked_eq]
  simp only [Option.elim]
  have : clipAt b.size 0 = 0 := by
    have := clipAt_nat b.size 0
    simpa using this
  rw [this, List.drop_zero, Nat.sub_zero, List.take_of_length_le (by simp), Array.toArray_toList]
end
end
section
open PySem PySem.W PyProof.Rows PySem.Calls PySem.Spec

abbrev ONE : B := BitVec.ofInt 64 11400714785074694791
abbrev TWO : B := BitVec.ofInt 64 14029467366897019727
abbrev THREE : B := BitVec.ofInt 64 1609587929392839161
abbrev FOUR : B := BitVec.ofInt 64 9650029242287828579
abbrev FIVE : B := BitVec.ofInt 64 2870177450012600261
def mixB (v : B) : B := rotl (v * TWO) 31 * ONE
def r8 (f v : B) : B := rotl (f ^^^ mixB v) 27 * ONE + FOUR
def r4 (f v : B) : B := rotl (f ^^^ v * ONE) 23 * TWO + THREE
def r1 (f o : B) : B := rotl (f ^^^ o * FIVE) 11 * ONE
def finB (f : B) : B :=
  let g := (f ^^^ f >>> 33) * TWO
  let h := (g ^^^ g >>> 29) * THREE
  h ^^^ h >>> 32
theorem o_zero : BitVec.ofInt 64 0 = (0 : B) := rfl
theorem b_zero_add (x : B) : (0 : B) + x = x := BitVec.zero_add x
theorem shr_I' (a : B) (k : Nat) (d : Int) (h : d = 2 ^ k) : (I a).fdiv d = I (a >>> k) := by subst h; exact shr_I a k
end
section
open PySem PySem.W PyProof.Rows PySem.Calls PySem.Spec

theorem shr_J (a : B) (z : Int) : (I a).fdiv (2 ^ z.toNat) = I (a >>> z.toNat) := shr_I a z.toNat
def tailB (f : B) : List Int → B
  | [] => f
  | k :: r => tailB (r1 f (BitVec.ofInt 64 k)) r
def step4 (f : B) (ks : List Int) : B := if 4 ≤ ks.length then tailB (r4 f (BitVec.ofInt 64 (low (ks.take 4)))) (ks.drop 4) else tailB f ks
def absorbN : Nat → B → List Int → B
  | 0, f, ks => step4 f ks
  | n + 1, f, ks => absorbN n (r8 f (BitVec.ofInt 64 (low (ks.take 8)))) (ks.drop 8)
def absorb (f : B) (ks : List Int) : B := absorbN (ks.length / 8) f ks
theorem absorb_eq (f : B) (ks : List Int) : absorb f ks = if 8 ≤ ks.length then absorb (r8 f (BitVec.ofInt 64 (low (ks.take 8)))) (ks.drop 8) else step4 f ks := by
  unfold absorb
  split
  · rw [List.length_drop, show ks.length / 8 = (ks.length - 8) / 8 + 1 by omega]; rfl
  · rw [show ks.length / 8 = 0 by omega]; rfl
def hashB (sd : B) (ks : List Int) : B := finB (absorb (sd + FIVE + BitVec.ofInt 64 (ks.length : Int)) ks)
theorem absorb_8 {f : B} {ks : List Int} (h : 8 ≤ ks.length) : absorb f ks = absorb (r8 f (BitVec.ofInt 64 (low (ks.take 8)))) (ks.drop 8) := by rw [absorb_eq, if_pos h]
theorem absorb_4 {f : B} {ks : List Int} (h : ¬ 8 ≤ ks.length) (h4 : 4 ≤ ks.length) : absorb f ks = tailB (r4 f (BitVec.ofInt 64 (low (ks.take 4)))) (ks.drop 4) := by rw [absorb_eq, if_neg h, step4, if_pos h4]
theorem absorb_0 {f : B} {ks : List Int} (h : ¬ 8 ≤ ks.length) (h4 : ¬ 4 ≤ ks.length) : absorb f ks = tailB f ks := by rw [absorb_eq, if_neg h, step4, if_neg h4]
/-- the steps as the walk meets them -/
theorem walk_8 {f0 y : B} {ks : List Int} {bg : Int} (h0 : 0 ≤ bg) (h : 8 ≤ (ks.length : Int) - bg) (e : absorb f0 ks = absorb y (ks.drop bg.toNat)) :
    absorb f0 ks = absorb (r8 y (BitVec.ofInt 64 (low ((ks.drop bg.toNat).take 8)))) (ks.drop (bg + 8).toNat) := by
  rw [e, absorb_8 (by rw [List.length_drop]; omega), List.drop_drop, show (bg + 8).toNat = bg.toNat + 8 by omega]
theorem walk_4 {f0 y : B} {ks : List Int} {bg : Int} (h0 : 0 ≤ bg) (h : 4 ≤ (ks.length : Int) - bg) (h8 : ¬ 8 ≤ (ks.length : Int) - bg) (e : absorb f0 ks = absorb y (ks.drop bg.toNat)) :
    absorb f0 ks = tailB (r4 y (BitVec.ofInt 64 (low ((ks.drop bg.toNat).take 4)))) (ks.drop (bg + 4).toNat) := by
  rw [e, absorb_4 (by rw [List.length_drop]; omega) (by rw [List.length_drop]; omega), List.drop_drop, show (bg + 4).toNat = bg.toNat + 4 by omega]
theorem walk_0 {f0 y : B} {ks : List Int} {bg : Int} (h0 : 0 ≤ bg) (h : ¬ 4 ≤ (ks.length : Int) - bg) (e : absorb f0 ks = absorb y (ks.drop bg.toNat)) :
    absorb f0 ks = tailB y (ks.drop bg.toNat) := by
  rw [e, absorb_0 (by rw [List.length_drop]; omega) (by rw [List.length_drop]; omega)]
theorem walk_1 {A y : B} {ks : List Int} {at' : Int} (h0 : 0 ≤ at') (h1 : at' < (ks.length : Int)) (e : A = tailB y (ks.drop at'.toNat)) :
    A = tailB (r1 y (BitVec.ofInt 64 (ks.getD at'.toNat 0))) (ks.drop (at' + 1).toNat) := by
  have hl : at'.toNat < ks.length := by omega
  rw [e, show (at' + 1).toNat = at'.toNat + 1 by omega, List.drop_eq_getElem_cons hl, show ks.getD at'.toNat 0 = ks[at'.toNat] by rw [List.getD_eq_getElem?_getD, List.getElem?_eq_getElem hl, Option.getD_some], tailB]
theorem walk_end {A y : B} {ks : List Int} {at' : Int} (h : (ks.length : Int) ≤ at') (e : A = tailB y (ks.drop at'.toNat)) : A = y := by
  rw [e, List.drop_eq_nil_of_le (by omega)]; rfl
theorem walk_0' {f0 y : B} {ks : List Int} {bg : Int} {i : Nat} (e : absorb f0 ks = absorb y (ks.drop bg.toNat)) (hi : i = bg.toNat) (h0 : 0 ≤ bg) (h : ¬ 4 ≤ (ks.length : Int) - bg) :
    absorb f0 ks = tailB y (ks.drop i) := by subst hi; exact walk_0 h0 h e
theorem walk_4' {f0 y : B} {ks : List Int} {bg : Int} {i : Nat} (hi : i = (bg + 4).toNat) (h0 : 0 ≤ bg) (h : 4 ≤ (ks.length : Int) - bg) (h8 : ¬ 8 ≤ (ks.length : Int) - bg) (e : absorb f0 ks = absorb y (ks.drop bg.toNat)) :
    absorb f0 ks = tailB (r4 y (BitVec.ofInt 64 (low ((ks.drop bg.toNat).take 4)))) (ks.drop i) := by subst hi; exact walk_4 h0 h h8 e
theorem walk_1' {A y : B} {ks : List Int} {at' : Int} {i j : Nat} (e : A = tailB y (ks.drop i)) (hi : i = at'.toNat) (hj : j = (at' + 1).toNat) (h0 : 0 ≤ at') (h1 : at' < (ks.length : Int)) :
    A = tailB (r1 y (BitVec.ofInt 64 (ks.getD at'.toNat 0))) (ks.drop j) := by subst hi hj; exact walk_1 h0 h1 e
theorem walk_end' {A y : B} {ks : List Int} {i : Nat} (e : A = tailB y (ks.drop i)) (h : ks.length ≤ i) : A = y := by
  rw [e, List.drop_eq_nil_of_le h]; rfl
end
section
open PySem PySem.W PyProof.Rows PySem.Calls PySem.Spec

def backN (p : B) : Nat → B
  | 0 => p
  | n + 1 => backN p n * (2 - p * backN p n)
def backB (p : B) : B := backN p 6
def lastB (f : B) : B :=
  let g := (f ^^^ f >>> 32) * backB THREE
  let h := (g ^^^ g >>> 29 ^^^ g >>> 58) * backB TWO
  h ^^^ h >>> 33
def u1 (y : B) (k : Int) : B := rotl (y * backB ONE) 53 ^^^ BitVec.ofInt 64 k * FIVE
def u4 (y v : B) : B := rotl ((y - THREE) * backB TWO) 41 ^^^ v * ONE
def tailU (y : B) (ks : List Int) : B :=
  if 3 < ks.length then u4 ((ks.drop 4).reverse.foldl u1 y) (BitVec.ofInt 64 (low (ks.take 4))) else ks.reverse.foldl u1 y
def begunB (sd : B) (ahead : List Int) (many : Int) : B :=
  if ahead.length = 8 then r8 (sd + FIVE + BitVec.ofInt 64 many) (BitVec.ofInt 64 (low ahead)) else sd + FIVE + BitVec.ofInt 64 many
def numB (found sd : B) (ahead : List Int) (size : Nat) (tail : List Int) : B :=
  let state := tailU (lastB found) tail
  let before := begunB sd ahead ((ahead.length : Int) + (size : Int) + (tail.length : Int))
  if size = 8 then rotl ((rotl ((state - FOUR) * backB ONE) 37 ^^^ before) * backB ONE) 33 * backB TWO
  else if size = 4 then (rotl ((state - THREE) * backB TWO) 41 ^^^ before) * backB ONE
  else (rotl (state * backB ONE) 53 ^^^ before) * backB FIVE
theorem o_two : BitVec.ofInt 64 2 = (2 : B) := rfl
theorem back_step (p : B) (n : Nat) (f : Int) (h : f = I (backN p n)) : (f * (2 - I p * f)).fmod 18446744073709551616 = I (backN p (n + 1)) := by
  subst h
  rw [fmod_I, o_mul, o_sub, o_mul, ofInt_I, ofInt_I, o_two]
  rfl
end
section
open PySem PySem.W PyProof.Rows PySem.Calls PySem.Spec

theorem I_ONE : (11400714785074694791 : Int) = I ONE := by decide +kernel
theorem I_TWO : (14029467366897019727 : Int) = I TWO := by decide +kernel
theorem I_THREE : (1609587929392839161 : Int) = I THREE := by decide +kernel
theorem I_FOUR : (9650029242287828579 : Int) = I FOUR := by decide +kernel
theorem I_FIVE : (2870177450012600261 : Int) = I FIVE := by decide +kernel
end
section
open PySem PySem.W PyProof.Rows PySem.Calls PySem.Spec PyProof.Rows.LCg

section
variable {prog : Program} {w : World} {A : Around} {E : Value → Shared → Prop} {s : Shared} {env : Env}
/-- a comprehension over pairs, whose element's evaluation only lets the heap grow -/
theorem cp_block {elt iter : Expr} {x x₂ : Str} {px px₂ tp : Pos} {kk : Nat} {scope : Scope} {cl : List (Str × Addr)} {pos : Pos} {s₂ : Shared} {I : Addr} {fp wr : List Addr} {n : Nat} {Pt : Nat → Array Value → Prop} {St : Nat → Heap → Prop} {Mid : Nat → Addr → Heap → Prop}
    {Y : Nat → Value → Prop} {RR : Value → Addr → Result → Shared → Prop}
    (W : WalksU prog w A I fp wr n Pt St Mid) (hsz : n ≤ sizeLine) (hh : A.handled = none)
    (hcell : ∀ y ∈ scope.names, y.2 ≠ .cell) (hkind : scope.kind = .function) (hx : scope.names.lookup x = some .local) (hx₂ : scope.names.lookup x₂ = some .local)
    (hst : St 0 s₂.heap) (hfp : ∀ b ∈ fp, b < s₂.heap.objs.size)
    (hpair : ∀ i vals, Pt i vals → ∃ v0 v1, vals = #[v0, v1])
    (helt : ∀ i v0 v1 C h tk (m₂ : Str → Option Value) (Q' : Value → Shared → Prop) (E' : Value → Shared → Prop), i < n → Pt i #[v0, v1] → h.Ns C m₂ → m₂ x = some v0 → m₂ x₂ = some v1 → (∀ b o, b ∉ wr → s₂.heap.get? b = some o → h.get? b = some o) →
      (∀ y h' tk', Y i y → (∀ b o, h.get? b = some o → h'.get? b = some o) → Q' y { s₂ with heap := h', toks := tk' }) → wpAny (model prog w) A (eval elt (compEnvC scope cl C env)) Q' E' { s₂ with heap := h, toks := tk })
    (hxx : x ≠ x₂)
    (hRR : ∀ D C h' tk m' ys, s₂.heap.get? D = none → s₂.heap.get? C = none → D ≠ C → h'.Ns C m' → h'.get? D = some (lst ys) → ys.length = n → (∀ j y, ys[j]? = some y → Y j y) → (∀ b o, b ∉ wr → s₂.heap.get? b = some o → h'.get? b = some o) →
      RR (.ref D) C (.ok .next) { s₂ with heap := h', toks := tk }) :
    wpAny (model prog w) A (newList []) (fun acc s₃ => wpAny (model prog w) A (newFunctionEnv scope env.globals cl [] env.qual none .none (some env)) (fun cenv s₄ =>
      codeAny (model prog w) A (.compStart (.ListComp elt [⟨.Tuple [.Name x px, .Name x₂ px₂] kk tp, iter, [], 0⟩] scope pos) 0 (.ref I) acc { cenv with scope := relabel scope env }) (RR acc cenv.locals) s₄) E s₃) E s₂ := by
  refine wpAny_newObj_type (wpAny_newFunctionEnv hcell (by intro y hy; simp at hy) (fun h₁ hns₁ hsb₁ => ?_) hkind)
  dsimp only at hns₁ hsb₁ ⊢
  generalize hH2 : s₂.heap.push { cls := .type "list", dict := none, data := .seq ([] : List Value).toArray } = H2 at hns₁ hsb₁ ⊢
  have hC : H2.objs.size = s₂.heap.objs.size + 1 := by rw [← hH2, Heap.size_push]
  have hDC : s₂.heap.objs.size ≠ H2.objs.size := by rw [hC]; exact Nat.ne_of_lt (Nat.lt_succ_self _)
  have old : ∀ b o, s₂.heap.get? b = some o → h₁.get? b = some o := fun b o e => hsb₁.extBut b o (by rw [hC]; exact Nat.ne_of_lt (Nat.lt_succ_of_lt (Heap.lt_size e))) (Heap.get?_push_of_some _ (hH2 ▸ Heap.get?_push_of_some _ e))
  have hacc : h₁.get? s₂.heap.objs.size = some (lst []) := hsb₁.extBut _ _ hDC (Heap.get?_push_of_some _ (hH2 ▸ Heap.get?_push_size _ rfl))
  have hst₁ : St 0 h₁ := W.frame _ _ _ hst fun b _ o e => old b o e
  have fresh : ∀ a, s₂.heap.objs.size ≤ a → s₂.heap.get? a = none := fun a ha => by
    cases e : s₂.heap.get? a with
    | none => rfl
    | some o' => exact absurd (Heap.lt_size e) (Nat.not_lt.mpr ha)
  have hwr : ∀ b ∈ wr, b < s₂.heap.objs.size := fun b hb => hfp b (W.sub b hb)
  have hDw : s₂.heap.objs.size ∉ wr := fun hm => Nat.lt_irrefl _ (hwr _ hm)
  have hCw : H2.objs.size ∉ wr := fun hm => by have := hwr _ hm; rw [hC] at this; exact Nat.lt_irrefl _ (Nat.lt_of_succ_lt this)
  have hCf : H2.objs.size ∉ fp := fun hm => by have := hfp _ hm; rw [hC] at this; exact Nat.lt_irrefl _ (Nat.lt_of_succ_lt this)
  have hDf : s₂.heap.objs.size ∉ fp := fun hm => Nat.lt_irrefl _ (hfp _ hm)
  have loop : ∀ s₃ : Shared, s₃ = { s₂ with heap := h₁, toks := s₂.toks + ([] : List (Str × Value)).length } →
      codeAny (model prog w) A (.compLoop (.ListComp elt [⟨.Tuple [.Name x px, .Name x₂ px₂] kk tp, iter, [], 0⟩] scope pos) 0 (.ref I) (.ref s₂.heap.objs.size) (compEnvC scope cl H2.objs.size env))
        (RR (.ref s₂.heap.objs.size) H2.objs.size) s₃ := by
    rintro s₃ rfl
    refine kcp_loop
      (fun k s' => ∃ h' tk i ys m', s' = { s₂ with heap := h', toks := tk } ∧ i ≤ n ∧ k = n + 1 - i ∧ ys.length = i ∧ (∀ j y, ys[j]? = some y → Y j y) ∧ St i h' ∧ h'.Ns H2.objs.size m' ∧ h'.get? s₂.heap.objs.size = some (lst ys) ∧
        (∀ b o, b ∉ wr → s₂.heap.get? b = some o → h'.get? b = some o)) ?_ (n + 1)
      ⟨h₁, _, 0, [], _, rfl, Nat.zero_le _, rfl, rfl, (fun j y e => by simp at e), hst₁, hns₁, hacc, fun b o _ e => old b o e⟩
    rintro k s' ⟨h', tk, i, ys, m', rfl, hi, rfl, hyl, hY, hst', hn', hD', hk'⟩
    by_cases hlt : i < n
    · refine W.item i _ _ _ hlt hst' fun T vals h₂ tk₂ hP hT hm hk₂ => ?_
      obtain ⟨v0, v1, rfl⟩ := hpair _ _ hP
      refine W.go _ _ _ i T _ _ _ hm fun h₃ hst₃ hk₃ => ?_
      have hTw := W.apart _ _ _ hm
      have k23 : ∀ b o, b ∉ wr → h'.get? b = some o → h₃.get? b = some o := fun b o hb e => hk₃ b o hb (hk₂ b o hb e)
      have hT₃ : h₃.IsTuple T #[v0, v1] := by
        obtain ⟨o, ho, r⟩ := hT
        exact ⟨o, hk₃ _ _ hTw ho, r⟩
      refine kcp_assign hh hT₃ (lookup_relabel_local hx) (lookup_relabel_local hx₂) (by simp [compEnvC, relabel, hkind]) (hn'.at' fun o e => k23 _ o hCw e) fun h₄ tk₄ hn₄ hk₄ => ?_
      have k34 : ∀ b o, b ≠ H2.objs.size → h'.get? b = some o → b ∉ wr → h₄.get? b = some o := fun b o hb e hw => hk₄ b o hb (k23 b o hw e)
      have kold : ∀ b o, b ∉ wr → s₂.heap.get? b = some o → h₄.get? b = some o := fun b o hb e => k34 b o (by rw [hC]; exact Nat.ne_of_lt (Nat.lt_succ_of_lt (Heap.lt_size e))) (hk' b o hb e) hb
      have hst₄ : St (i + 1) h₄ := W.frame _ _ _ hst₃ fun b hb o e => hk₄ b o (fun q => hCf (by have q' : b = H2.objs.size := q; rw [← q']; exact hb)) e
      refine helt i v0 v1 H2.objs.size h₄ tk₄ _ _ _ hlt hP hn₄ (by simp [hxx]) (by simp) kold fun y h₅ tk₅ hy hk₅ => ?_
      have hD₅ : h₅.get? s₂.heap.objs.size = some (lst ys) := hk₅ _ _ (k34 _ _ hDC hD' hDw)
      refine append_at (hsz := by show ys.toArray.size ≤ sizeLine; rw [List.size_toArray, hyl]; exact Nat.le_trans hi hsz) hD₅ fun h₆ hs₆ hD₆ => ?_
      refine ⟨n + 1 - (i + 1), by omega, h₆, _, i + 1, ys ++ [y], _, rfl, hlt, rfl, by rw [List.length_append, List.length_singleton, hyl], ?_, ?_, (hn₄.at' fun o e => hk₅ _ o e).sameBut hs₆ (Ne.symm hDC), hD₆.trans (congrArg some (lst_snoc ys y)), fun b o hb e => ?_⟩
      · intro j z hz
        by_cases hj : j < ys.length
        · rw [List.getElem?_append_left hj] at hz
          exact hY j z hz
        · have hj' : j = ys.length := by
            have := (List.getElem?_eq_some_iff.mp hz).1
            rw [List.length_append, List.length_singleton] at this
            omega
          subst hj'
          rw [List.getElem?_append_right (Nat.le_refl _), Nat.sub_self] at hz
          cases hz
          exact hyl ▸ hy
      · exact W.frame _ _ _ hst₄ fun b hb o e => hs₆.extBut b o (fun q => hDf (q ▸ hb)) (hk₅ b o e)
      · exact hs₆.extBut b o (fun q => by rw [q, fresh _ (Nat.le_refl _)] at e; cases e) (hk₅ b o (kold b o hb e))
    · obtain rfl : i = n := Nat.le_antisymm hi (Nat.not_lt.mp hlt)
      refine W.done _ _ _ hst' fun h₂ tk₂ hk₂ => ?_
      exact hRR _ _ h₂ tk₂ _ ys (fresh _ (Nat.le_refl _)) (fresh _ (by rw [hC]; exact Nat.le_succ _)) hDC (hn'.at' fun o e => hk₂ _ o hCw e) (hk₂ _ _ hDw hD') hyl hY fun b o hb e => hk₂ b o hb (hk' b o hb e)
  exact codeAny_compStart_list (loop _ rfl) (W.self 0 _ _ _ hst₁ (loop _ rfl))
theorem comp_pairs {elt iter : Expr} {x x₂ : Str} {px px₂ tp : Pos} {kk : Nat} {scope : Scope} {cl : List (Str × Addr)} {pos : Pos} {Q : Value → Shared → Prop}
    (hclos : closureFor scope env = pure cl) (hcell : ∀ y ∈ scope.names, y.2 ≠ .cell) (hkind : scope.kind = .function)
    (hnames : ∀ y ∈ scope.names, y.2 = .local → scope.names.lookup y.1 = some .local) (hx : scope.names.lookup x = some .local) (hx₂ : scope.names.lookup x₂ = some .local) (hxx : x ≠ x₂) (hh : A.handled = none)
    (h : wpAny (model prog w) A (eval iter env) (fun xv s₁ => wpAny (model prog w) A (pyIter xv) (fun it s₂ => ∃ (I : Addr) (fp wr : List Addr) (n : Nat) (Pt : Nat → Array Value → Prop) (St : Nat → Heap → Prop) (Mid : Nat → Addr → Heap → Prop) (Y : Nat → Value → Prop),
      it = .ref I ∧ WalksU prog w A I fp wr n Pt St Mid ∧ n ≤ sizeLine ∧ St 0 s₂.heap ∧ (∀ b ∈ fp, b < s₂.heap.objs.size) ∧ (∀ i vals, Pt i vals → ∃ v0 v1, vals = #[v0, v1]) ∧
      (∀ i v0 v1 C h tk (m₂ : Str → Option Value) (Q' : Value → Shared → Prop) (E' : Value → Shared → Prop), i < n → Pt i #[v0, v1] → h.Ns C m₂ → m₂ x = some v0 → m₂ x₂ = some v1 → (∀ b o, b ∉ wr → s₂.heap.get? b = some o → h.get? b = some o) →
        (∀ y h' tk', Y i y → (∀ b o, h.get? b = some o → h'.get? b = some o) → Q' y { s₂ with heap := h', toks := tk' }) → wpAny (model prog w) A (eval elt (compEnvC scope cl C env)) Q' E' { s₂ with heap := h, toks := tk }) ∧
      (∀ D h' tk ys, s₂.heap.get? D = none → h'.get? D = some (lst ys) → ys.length = n → (∀ j y, ys[j]? = some y → Y j y) → (∀ b o, b ∉ wr → s₂.heap.get? b = some o → h'.get? b = some o) → Q (.ref D) { s₂ with heap := h', toks := tk })) E s₁) E s)
    (hs : ∀ x, foldedSetIterable iter env x = pure x := by intro _; rfl) :
    wpAny (model prog w) A (eval (.ListComp elt [⟨.Tuple [.Name x px, .Name x₂ px₂] kk tp, iter, [], 0⟩] scope pos) env) Q E s := by
  rw [eval_ListComp]
  refine wpAny_comprehension_free (use := none) rfl hs hclos hkind hnames (wpAny_mono h (fun xv s₁ h₁ => wpAny_mono h₁ (fun it s₂ h₂ => ?_) fun _ _ e => e) fun _ _ e => e)
  obtain ⟨I, fp, wr, n, Pt, St, Mid, Y, rfl, W, hsz, hst, hfp, hpair, helt, hQ⟩ := h₂
  refine cp_block (RR := fun acc C => compPost (model prog w) A E none Q acc C) W hsz hh hcell hkind hx hx₂ hst hfp hpair helt hxx ?_
  intro D C h' tk m' ys hD hC hDC hn hl hlen hY hk
  exact ⟨m', hn, fun h'' hs'' => hQ D h'' tk ys hD (hs''.extBut _ _ hDC hl) hlen hY fun b o hb e => hs''.extBut b o (fun q => by rw [q, hC] at e; cases e) (hk b o hb e)⟩
end
end
section
open PySem PySem.W PyProof.Rows PySem.Calls PySem.Spec PyProof.Rows.LCg

open Builtin
section
variable {prog : Program} {w : World} {A : Around} {E : Value → Shared → Prop} {s : Shared} {b : Array UInt8} {t : Tok}
theorem by_next_item {it : Addr} {i : Nat} {c : UInt8} {Q : Value → Shared → Prop} (hit : KBw.IsBytesIter s.heap it b t i) (hx : b[i]? = some c)
    (hQ : ∀ h', KBw.IsBytesIter h' it b t (i + 1) → Heap.SameBut it s.heap h' → Q (.int (c.toNat : Int) s.toks) { s with heap := h', toks := s.toks + 1 }) : wpAny (model prog w) A (SmallTypes.nextOf (.ref it)) Q E s := by
  obtain ⟨o, ho, hc, hd⟩ := id hit
  unfold SmallTypes.nextOf
  refine wpAny_bind (wpAny_callSpecial?_slot (name := PySem.Str.ofString "__next__") (KBw.iter_typeIs hit) KBw.slot_next
    (wpAny_call_entry KBw.slot_next (KBw.iter_typeIs hit) KBw.entry_next ?_ (KBw.args_next _)))
  show wpAny _ _ (field (.ref it) 0 >>= _) _ _ s
  refine wpAny_bind (wpAny_field ho hd (x := .bytes b t) rfl ?_)
  show wpAny _ _ (if (Value.bytes b t == Value.none) = true then _ else _) _ _ s
  rw [if_neg (show ¬ ((Value.bytes b t == Value.none) = true) from Bool.false_ne_true)]
  show wpAny _ _ (field (.ref it) 1 >>= _) _ _ s
  refine wpAny_bind (wpAny_field ho hd (x := .int i 0) rfl ?_)
  refine wpAny_bind (wpAny_of_eq (a := b) rfl ?_)
  simp only [Int.toNat_natCast, hx]
  refine wpAny_bind (wpAny_setField ho hd (by simp) (wpAny_bind (wpAny_mkInt (wpAny_pure ⟨_, rfl, wpAny_pure (hQ _ ?_ (Heap.SameBut.update ..))⟩))))
  exact ⟨_, Heap.get?_update_self _ ho (Obj.isFreed_of_fields (Obj.data_mapFields hd _)), (Obj.cls_mapFields ..).trans hc, by
    rw [Obj.data_mapFields hd]; simp [rawInt]⟩
theorem by_next_end {it : Addr} {i : Nat} {Q : Value → Shared → Prop} (hh : A.handled = none) (hit : KBw.IsBytesIter s.heap it b t i) (hx : b[i]? = none)
    (hE : ∀ h' e, Heap.ExtBut it s.heap h' → (∃ o, h'.get? e = some o ∧ o.cls = .type "StopIteration") → E (.ref e) { s with heap := h' }) : wpAny (model prog w) A (SmallTypes.nextOf (.ref it)) Q E s := by
  obtain ⟨o, ho, hc, hd⟩ := id hit
  unfold SmallTypes.nextOf
  refine wpAny_bind (wpAny_callSpecial?_slot (name := PySem.Str.ofString "__next__") (KBw.iter_typeIs hit) KBw.slot_next
    (wpAny_call_entry KBw.slot_next (KBw.iter_typeIs hit) KBw.entry_next ?_ (KBw.args_next _)))
  show wpAny _ _ (field (.ref it) 0 >>= _) _ _ s
  refine wpAny_bind (wpAny_field ho hd (x := .bytes b t) rfl ?_)
  show wpAny _ _ (if (Value.bytes b t == Value.none) = true then _ else _) _ _ s
  rw [if_neg (show ¬ ((Value.bytes b t == Value.none) = true) from Bool.false_ne_true)]
  show wpAny _ _ (field (.ref it) 1 >>= _) _ _ s
  refine wpAny_bind (wpAny_field ho hd (x := .int i 0) rfl ?_)
  refine wpAny_bind (wpAny_of_eq (a := b) rfl ?_)
  simp only [Int.toNat_natCast, hx]
  refine wpAny_bind (wpAny_rule (wpAny_bind (wpAny_setField ho hd (by simp) ?_)))
  show wpAny _ _ (newExc (.type "StopIteration") [] >>= _) _ _ _
  refine wpAny_bind ?_
  simp only [newExc, newTuple]
  refine wpAny_bind (wpAny_newObj_type ?_ (by size_fits))
  refine wpAny_bind (m := firstArgMember _ _) (wpAny_of_eq (a := Value.none) (by first | rfl | (simp only [firstArgMember]; rfl)) ?_)
  refine wpAny_newObj_type ?_ (by size_fits)
  simp only [raiseNew]
  refine wpAny_bind (wpAny_handled ?_)
  first | rw [show A.in1.handled = none from hh] | rw [hh]
  refine wpAny_bind (wpAny_pure (wpAny_throw ?_))
  exact hE _ _ (((Heap.SameBut.update ..).extBut.push _).push _) ⟨_, Heap.get?_push_size _ rfl, rfl⟩
end
theorem draws_bytes {prog : Program} {w : World} {A : Around} (hh : A.handled = none) (it : Addr) (b : Array UInt8) (t : Tok) :
    Draws prog w A it [it] b.size (fun i v => ∃ c u, b[i]? = some c ∧ v = .int (c.toNat : Int) u) (fun i h => KBw.IsBytesIter h it b t i) where
  live := fun _ _ st => let ⟨o, ho, _⟩ := st; ⟨o, ho⟩
  frame := fun _ _ _ st hk => let ⟨o, ho, r⟩ := st; ⟨o, hk it (by simp) o ho, r⟩
  item := fun i s Q E hi st hQ => by
    refine by_next_item st (c := b[i]) (by simp [hi]) fun h' hit' hs' => ?_
    exact hQ _ h' (s.toks + 1) ⟨_, _, by simp [hi], rfl⟩ hit' hs'
  done := fun s Q E st hE => by_next_end hh st (by simp) hE
set_option maxHeartbeats 1000000 in
theorem meets_enumerate_newB (b : Array UInt8) (t : Tok) :
    Meets (Builtin.«enumerate.__new__» ⟨[.type "enumerate", .bytes b t], []⟩) (fun _ R s =>
      R (.ok (.ret (.ref (s.heap.push { cls := .type "bytes_iterator", data := .fields #[.bytes b t, .int 0 0] }).objs.size)))
        { s with heap := (s.heap.push { cls := .type "bytes_iterator", data := .fields #[.bytes b t, .int 0 0] }).push { cls := .type "enumerate", data := .fields #[.none, .bool false, .ref s.heap.objs.size, rawInt 0, .none, .none] } }) :=
  .of_wp fun prog w A R s h => by
    obtain ⟨hp, g, d, tk, os⟩ := s
    have hsub := sub_enumerate
    wp_walk
    refine wpAny_stack_any fun st => wpAny_pure ?_
    split
    · rename_i c _ _ _ _ _
      cases (c == Value.type "enumerate")
      · wp_walk using KBw.pyIter_bytes
        exact ⟨_, rfl, h⟩
      · wp_walk using KBw.pyIter_bytes
        exact ⟨_, rfl, h⟩
    · wp_walk using KBw.pyIter_bytes
      exact ⟨_, rfl, h⟩
section
variable {prog : Program} {w : World} {A : Around} {E : Value → Shared → Prop} {s : Shared} {b : Array UInt8} {t : Tok}
theorem call_enumerate_bytes {Q : Value → Shared → Prop}
    (h : ∀ h', IsEnum h' (s.heap.objs.size + 1) s.heap.objs.size 0 .none → KBw.IsBytesIter h' s.heap.objs.size b t 0 → h'.objs.size = s.heap.objs.size + 2 →
      (∀ b o, s.heap.get? b = some o → h'.get? b = some o) → Q (.ref (s.heap.objs.size + 1)) { s with heap := h' }) :
    wpAny (model prog w) A (call (.type "enumerate") [.bytes b t]) Q E s := by
  refine callType_new F.called_enumerate (by decide) (F.typeCall_enumerate_1 _) (F.newCall_enumerate_1 _) (fun obj => F.args_object_init_2 obj _) F.entry_enumerate_new
    (meets_enumerate_newB b t) ?_
  have hz : (s.heap.push { cls := .type "bytes_iterator", data := .fields #[.bytes b t, .int 0 0] }).objs.size = s.heap.objs.size + 1 := Heap.size_push ..
  show _ ∧ _
  rw [hz]
  have he : IsEnum ((s.heap.push { cls := .type "bytes_iterator", data := .fields #[.bytes b t, .int 0 0] }).push
      { cls := .type "enumerate", data := .fields #[.none, .bool false, .ref s.heap.objs.size, rawInt 0, .none, .none] }) (s.heap.objs.size + 1) s.heap.objs.size 0 .none := by
    have := Heap.get?_push_size (s.heap.push { cls := .type "bytes_iterator", data := .fields #[.bytes b t, .int 0 0] })
      (o := { cls := .type "enumerate", data := .fields #[.none, .bool false, .ref s.heap.objs.size, rawInt 0, .none, .none] }) rfl
    rw [hz] at this; exact this
  refine ⟨⟨_, he, rfl⟩, h _ he ⟨_, Heap.get?_push_of_some _ (Heap.get?_push_size _ rfl), rfl, rfl⟩ (by rw [Heap.size_push, hz]) fun b o y => Heap.get?_push_of_some _ (Heap.get?_push_of_some _ y)⟩
end
end
section
open PySem PySem.W PyProof.Rows PySem.Calls PySem.Spec PyProof.Rows.LCg

theorem pre_low (ks : List Int) : ∀ n, n ≤ ks.length → preSum (fun i => ks.getD i 0 * 256 ^ i) n = low (ks.take n)
  | 0, _ => by simp [preSum, low]
  | n + 1, h => by
    have e : ks.take (n + 1) = ks.take n ++ [ks.getD n 0] := by
      rw [List.take_add_one, List.getD_eq_getElem?_getD, List.getElem?_eq_getElem (by omega)]
      rfl
    rw [preSum, pre_low ks n (by omega), e, low_snoc, List.length_take, Nat.min_eq_left (by omega), Int.pow_mul]
    rfl
theorem ints_getD {b : Array UInt8} {i : Nat} {c : UInt8} (h : b[i]? = some c) : (c.toNat : Int) = (KBw.bInts b).getD i 0 := by
  rw [List.getD_eq_getElem?_getD, KBw.ints_get h]; rfl
section
variable {prog : Program} {w : World} {A : Around} {E : Value → Shared → Prop} {s : Shared} {env : Env}
theorem sum_low {D : Addr} {ys : List Value} {ks : List Int} {Q : Value → Shared → Prop} (hh : A.handled = none) (hD : s.heap.get? D = some (lst ys)) (hlen : ys.length = ks.length) (hY : ∀ j y, ys[j]? = some y → ∃ t, y = Value.int (ks.getD j 0 * 256 ^ j) t)
    (h : ∀ h' tk t', (∀ b o, s.heap.get? b = some o → h'.get? b = some o) → Q (.int (low ks) t') { s with heap := h', toks := tk }) :
    wpAny (model prog w) A (call (.builtin "sum") [.ref D]) Q E s := by
  have hl : s.heap.IsList D ys.toArray := ⟨_, hD, rfl, _, rfl⟩
  have hlt : D < s.heap.objs.size := Heap.lt_size hD
  refine call_sum_walkG ?_
  refine wpAny_pyIter_list hl ?_
  refine ⟨_, _, _, _, _, _, (fun i => ks.getD i 0 * 256 ^ i), rfl, Walks.list (A := A.in1) hh s.heap.objs.size D (Nat.ne_of_lt hlt) ys.toArray, ⟨⟨_, Heap.get?_push_size _ rfl, rfl, rfl⟩, hl.push _⟩, fun b hb => ?_, fun i v hv => ?_, fun h' tk t' hk => ?_⟩
  · show b < (s.heap.push _).objs.size
    rw [Heap.size_push]
    rcases List.mem_cons.mp hb with rfl | hb
    · exact Nat.lt_succ_self _
    · rw [List.mem_singleton.mp hb]; exact Nat.lt_succ_of_lt hlt
  · exact hY i v (by simpa using hv)
  · have e : preSum (fun i => ks.getD i 0 * 256 ^ i) ys.toArray.size = low ks := by
      rw [pre_low ks _ (by rw [List.size_toArray, hlen]; exact Nat.le_refl _), List.size_toArray, hlen, List.take_length]
    rw [e]
    exact h h' tk t' fun b o e => hk b o (fun q => by
      have e' := Heap.lt_size e
      rw [List.mem_singleton.mp q] at e'; exact Nat.lt_irrefl _ e') (Heap.get?_push_of_some _ e)
theorem elt_low {pb : PySem.Pos} {x x₂ : Str} {p1 p2 p3 p4 : Pos} {k1 : Nat} {scope : Scope} {cl : List (Str × Addr)} {C : Addr} {m₂ : Str → Option Value} {i : Nat} {t u : Tok} {c : Int} {Q : Value → Shared → Prop}
    (hkind : scope.kind = .function) (hx : scope.names.lookup x = some .local) (hx₂ : scope.names.lookup x₂ = some .local) (hn : s.heap.Ns C m₂) (h0 : m₂ x = some (.int (i : Int) t)) (h1 : m₂ x₂ = some (.int c u)) (hi : i ≤ 1000000)
    (hc : 0 ≤ c) (hc' : c < 256) (hd : (x == ("__debug__" : Str)) = false) (hd2 : (x₂ == ("__debug__" : Str)) = false)
    (h : ∀ tk t', Q (.int (c * 256 ^ i) t') { s with toks := tk }) :
    wpAny (model prog w) A (eval (.BinOp (.Name x₂ p1) .Mult (.BinOp (.Constant (.int 256) k1 p2) .Pow (.Name x p3) p4) pb) (compEnvC scope cl C env)) Q E s := by
  have kf : (compEnvC scope cl C env).scope.kind = .function := by simp [compEnvC, relabel, hkind]
  refine wpAny_BinOp (wpAny_Name (wpAny_loadName_local kf (lookup_relabel_local hx₂) hn h1 ?_) hd2)
  refine wpAny_BinOp (wpAny_Constant_int (wpAny_Name (wpAny_loadName_local kf (lookup_relabel_local hx) hn h0 ?_) hd))
  refine pow_int_small (by omega) (by omega) (by decide) ?_
  refine mul_int ?_ (IntMulOk.of_left (intBits_le_64 (by omega) (by omega)))
  rw [Int.toNat_natCast]
  exact h _ _
/-- enumerate over bytes, as the source of the comprehension -/
theorem enum_source {b : Array UInt8} {t : Tok} {P : Value → Shared → Prop} (hh : A.handled = none)
    (h : ∀ e it h', e ≠ it → e = s.heap.objs.size + 1 → it = s.heap.objs.size → h'.objs.size = s.heap.objs.size + 2 → IsEnum h' e it 0 .none → KBw.IsBytesIter h' it b t 0 → (∀ b o, s.heap.get? b = some o → h'.get? b = some o) →
      WalksU prog w A e [e, it] [e, it] b.size (fun i vals => ∃ t x, (∃ c u, b[i]? = some c ∧ x = .int (c.toNat : Int) u) ∧ vals = #[.int i t, x])
      (fun i h => (∃ old, IsEnum h e it i old) ∧ KBw.IsBytesIter h it b t i)
      (fun i T h => (∃ x, IsEnumOut h e it ((i : Int) + 1) x T) ∧ KBw.IsBytesIter h it b t (i + 1) ∧ T ≠ e ∧ T ≠ it) → P (.ref e) { s with heap := h' }) :
    wpAny (model prog w) A (call (.type "enumerate") [.bytes b t]) (fun xv s₁ => wpAny (model prog w) A (pyIter xv) P E s₁) E s := by
  refine call_enumerate_bytes fun h' he hit hz hk => ?_
  refine wpAny_pyIter_enum he ?_
  exact h _ _ h' (Nat.succ_ne_self _) rfl rfl hz he hit hk (WalksT.toU (WalksT.enumerateD (draws_bytes (A := A.in1) hh s.heap.objs.size b t) _ (Nat.succ_ne_self _) (fun hm => Nat.succ_ne_self _ (List.mem_singleton.mp hm)) (List.mem_singleton.mpr rfl)))
end
end
section
open PySem PySem.W PyProof.Rows PySem.Calls

open Builtin
def revB (b : Array UInt8) : Array UInt8 := b.toList.reverse.toArray
theorem krv_all8 {α : Type} (xs : Array α) : (List.range xs.size).filterMap (xs[·]?) = xs.toList := krv_all xs
theorem sliced_rev (b : Array UInt8) : Bytes.sliced b ((b.size : Int) - 1) (-1) (-1) = revB b := by
  unfold Bytes.sliced revB
  rw [krv_sliceRange, krv_range, List.filterMap_reverse, krv_all]
theorem ints_rev (b : Array UInt8) : KBw.bInts (revB b) = (KBw.bInts b).reverse := by
  show (b.toList.reverse).map _ = (b.toList.map _).reverse
  rw [List.map_reverse]
theorem size_rev (b : Array UInt8) : (revB b).size = b.size := by simp [revB]
theorem meets_rev (b : Array UInt8) (t : Tok) (a : Addr) (ut : Tok) :
    Meets («bytes.__getitem__» ⟨[.bytes b t, .ref a], []⟩) (fun _ R s => s.heap.IsSliceOf a .none .none (.int (-1) ut) ∧ b.size ≤ sizeLine ∧ ∀ t' k, R (.ok (.ret (.bytes (revB b) t'))) { s with toks := k }) := by
  refine .of_wp fun prog w A R s hS => ?_
  obtain ⟨⟨o, ho, hc, hd⟩, hsz, h⟩ := hS
  have hT : s.TypeIs (.ref a) "slice" := ⟨o, ho, hc⟩
  show wpAny _ _ (Bytes.payload (.bytes b t) >>= fun r => _) _ _ s
  refine wpAny_bind (wpAny_of_eq (a := b) rfl ?_)
  show wpAny _ _ (Bytes.subscript? (.ref a) >>= fun r => _) _ _ s
  refine wpAny_bind ?_
  unfold Bytes.subscript?
  refine wpAny_bind (wpAny_specialOf hT slice_no_index (wpAny_pure ?_))
  refine wpAny_bind (wpAny_typeOf hT ?_)
  show wpAny _ _ (Bytes.sliceParts (.ref a) >>= fun r => _) _ _ s
  refine wpAny_bind ?_
  unfold Bytes.sliceParts
  refine wpAny_bind (wpAny_field (x := .int (-1) ut) ho hd rfl ?_)
  kby_int
  refine wpAny_ite (KBy.ite_no (by decide) ?_)
  refine wpAny_bind (wpAny_field (x := .none) ho hd rfl ?_)
  have go : wpAny (model prog w) A.in1 (sliceIndices (rawPart none) (rawPart none) (rawPart (some (-1))) b.size) (fun r s' => r = sliceBounds none none (some (-1)) b.size ∧ s' = s) (fun _ _ => False) s :=
    wpAny_of_eq (sliceIndices_raw none none (some (-1)) b.size (by decide)) ⟨rfl, rfl⟩
  kby_none
  refine wpAny_bind (wpAny_field (x := .none) ho hd rfl ?_)
  kby_none
  refine wpAny_pure ?_
  refine wpAny_bind (wpAny_mono go (fun r s' hr => ?_) fun _ _ e => e.elim)
  obtain ⟨hr1, hr2⟩ := hr
  subst hr1 hr2
  rw [krv_bounds]
  dsimp only
  refine wpAny_ite (KBy.ite_no (by
    intro q
    rw [show ((-1 : Int) == 1) = false from by decide, Bool.and_false, Bool.false_and, Bool.false_and] at q
    cases q) ?_)
  rw [sliced_rev]
  exact wpAny_bind (wpAny_mkBytes (wpAny_pure ⟨_, rfl, h _ _⟩) (by rw [size_rev]; exact hsz))
section
variable {prog : Program} {w : World} {A : Around} {E : Value → Shared → Prop} {s : Shared} {value slice : PySem.Expr} {b : Array UInt8} {t ut : Tok} {h₀ : Heap} {L : Addr} {m : PySem.Str → Option Value} {news : List (Addr × Obj)} {Q : Value → Shared → Prop}
theorem rev_K (hF : Fr h₀ L s.heap m) (hN : News h₀ L s.heap news) (hz : b.size ≤ 16777216)
    (h : ∀ h' t' k, Fr h₀ L h' m → News h₀ L h' news → Q (.bytes (revB b) t') { s with heap := h', toks := k })
    (hs : subscripted slice false (.bytes b t) (.ref s.heap.objs.size) = operate [.ref s.heap.objs.size, .bytes b t] (getItem (.bytes b t) (.ref s.heap.objs.size)) := by with_unfolding_all rfl)
    (ht : ∀ r, letTemporaryGo value (.bytes b t) r = pure () := by intro _; with_unfolding_all rfl) :
    wpAny (model prog w) A (subscriptTail value slice (.bytes b t) (.ref s.heap.objs.size)) Q E { s with heap := s.heap.push { cls := .type "slice", data := .fields #[.none, .none, .int (-1) ut] } } :=
  tail_of_ItemOn ⟨"bytes", _, FB.slot_bytes_getitem.lookup, typeIs_bytes _ _ _, getItem_meets (typeIs_bytes _ _ _) (by decide) FB.slot_bytes_getitem FB.entry_bytes_getitem (FB.args_bytes_getitem_2 _ _) (meets_rev b t _ ut)
    ⟨Heap.IsSliceOf.new _ _ _ _, by rw [sizeLine_eq]; exact hz, fun t' k => h _ _ _ (hF.push _) (News.pushKeep hN _)⟩⟩ hs ht
end
end
section
open PySem PySem.W PyProof.Rows PySem.Calls

theorem ints_from (b : Array UInt8) (k : Nat) : KBw.bInts (KBy.picked b (some (k : Int)) none) = (KBw.bInts b).drop k := by
  rw [KBc.ints_picked rfl]
  simp only [Option.elim, clipAt_nat]
  by_cases h : k ≤ (KBw.bInts b).length
  · rw [Nat.min_eq_left h, List.take_of_length_le (by rw [List.length_drop]; exact Nat.le_refl _)]
  · rw [Nat.min_eq_right (by omega), List.drop_length, List.drop_eq_nil_of_le (by omega), List.take_nil]
theorem ints_to (b : Array UInt8) (k : Nat) : KBw.bInts (KBy.picked b none (some (k : Int))) = (KBw.bInts b).take k := by
  rw [KBc.ints_picked rfl]
  simp only [Option.elim, clipAt_nat, List.drop_zero, Nat.sub_zero]
  by_cases h : k ≤ (KBw.bInts b).length
  · rw [Nat.min_eq_left h]
  · rw [Nat.min_eq_right (by omega), List.take_length, List.take_of_length_le (by omega)]
theorem tailU_4 {y0 : B} {b : Array UInt8} (h : 3 < (KBw.bInts b).length) :
    tailU y0 (KBw.bInts b) = rotl (((KBw.bInts (revB (KBy.picked b (some 4) none))).foldl u1 y0 - THREE) * backB TWO) 41 ^^^ BitVec.ofInt 64 (low (KBw.bInts (KBy.picked b none (some 4)))) * ONE := by
  rw [tailU, if_pos h, ints_rev, show KBw.bInts (KBy.picked b (some 4) none) = (KBw.bInts b).drop 4 from ints_from b 4, show KBw.bInts (KBy.picked b none (some 4)) = (KBw.bInts b).take 4 from ints_to b 4]
  rfl
theorem tailU_0 {y0 : B} {b : Array UInt8} (h : ¬ 3 < (KBw.bInts b).length) : tailU y0 (KBw.bInts b) = (KBw.bInts (revB (KBy.picked b (some 0) none))).foldl u1 y0 := by
  rw [tailU, if_neg h, ints_rev, show KBw.bInts (KBy.picked b (some 0) none) = (KBw.bInts b).drop 0 from ints_from b 0, List.drop_zero]
end
section
open PySem PySem.W PyProof.Rows PySem.Calls PySem.Spec

section
variable {w : World} {mean : ExcName → Option Value} {mg mb : Str → Option Value} {lvl : Nat} {f : Addr} {vs : List Value} {touched : Led} {post : Value → Led → Prop}
/-- the entry of a def with cells -/
theorem h_enterX {name qual : Str} {params : Arguments} {body : List Stmt} {scope : Scope} {dV kV doc pm cdv ct oc : Value} {an od : Option Addr} {osl : Array (Option Value)} {binds : List (Str × Value)}
    (ho : (Mine.hd.heap_39 w.params).lookup f = some ⟨oc, od, .func (fnOf name qual params body scope dV kV doc pm an cdv ct), osl⟩) (hcd : codeIn (Mine.hd.heap_39 w.params) cdv qual = true)
    (hbind : ∀ s : Shared, (Mine.hd.heap_39 w.params).In s.heap → BindsTo s (fnOf name qual params body scope dV kV doc pm an cdv ct) ⟨vs, []⟩ binds)
    (hkind : (binds.all fun y => scope.names.lookup y.1 == some .local || scope.names.lookup y.1 == some .cell) = true) (hnd : ((cellsFrom 0 scope.names []).map (·.1)).Nodup)
    (hco : scope.isCoroutine = false) (hgen : scope.isGenerator = false) (hk : scope.kind = .function) (hl : 0 < lvl)
    (h : ∀ (dp un : Nat) (gd : Option (List Code)) (env : Env) (outer : List Env) (base g : Heap) (L : Addr) (h₁ : Heap) (tk : Nat) (cells : Led) (s : Shared),
      Below (arnd dp un gd (env :: outer)) base (env :: outer) g → Fr g L h₁ (bindL (envOfC qual scope L f cdv).kindOf binds fun _ => none) → News g L h₁ (cells ++ touched) →
      CellsAre (bindC (envOfC qual scope L f cdv).kindOf binds fun _ => none) (cellsFrom (L + 1) scope.names []) cells → (∀ p ∈ touched, p.1 < L) →
      (Mine.hd.heap_39 w.params).In g → TopM mean mg mb g → dp + lvl < recursionLimit → un + 8 * lvl < cLine →
      wpAny (MM w) (ktrTop (dp + 1) (un + 3) gd qual scope L f cdv (cellsFrom (L + 1) scope.names []) (env :: outer)) (execs body (envOfC qual scope L f cdv))
        (fun fl s' => Done g L s post (match fl with | .ret v => v | _ => .none) s') (fun _ _ => False) { s with heap := h₁, toks := tk }) :
    HCtr w mean mg mb lvl f vs touched post := by
  intro dp un gd env outer base g s R B st sz X T hN hd hu hret
  have Xs : (Mine.hd.heap_39 w.params).In s.heap := X.keeps fun b o e => st b o e
  refine codeAny_call_function (fd := fnOf name qual params body scope dV kV doc pm an cdv ct) (body := body) (by show dp < recursionLimit; omega) (Xs _ _ ho) rfl hco hgen rfl (codeRec_of Xs hcd) (hbind s Xs _ _ _ _ ?_)
  refine wpAny_newFunctionEnv_cells hk (kindsX hkind _) fun env' he s' x => ?_
  subst he
  refine ⟨(T.nolimit.keeps fun b o e => st b o e).keeps x.toInCall.keep, codeAny_func ?_⟩
  obtain ⟨h₁, tk, rfl, _⟩ := x.done
  have hk₁ := x.toInCall.keep
  obtain ⟨cells, NC, Y⟩ := Cl.news (h₀ := s.heap) (Nat.le_refl _) fun n c hm => ⟨x.cell n c (lookup_of_mem_nodup (cellsFrom_names scope.names 0 (s.heap.objs.size + 1) [] [] rfl ▸ hnd) hm), x.above n c hm⟩
  refine wpAny_mono (h dp un gd env outer base g s.heap.objs.size h₁ tk cells s B ⟨x.toInCall.ns, fun b o e => hk₁ b o (st b o e), sz⟩ (fun p hp => ?_) Y (fun p hp => Heap.lt_size (hN p hp).1) X T hd hu) (fun fl s' q => ?_) fun _ _ e => e.elim
  · rcases List.mem_append.mp hp with hp | hp
    · refine ⟨(NC p hp).1, (NC p hp).2.1, ?_⟩
      cases q : g.get? p.1 with
      | none => rfl
      | some o => have := st _ _ q; rw [(NC p hp).2.2] at this; cases this
    · exact ⟨hk₁ _ _ (hN p hp).1, Nat.ne_of_lt (Heap.lt_size (hN p hp).1), (hN p hp).2⟩
  · obtain ⟨h', tk', m', news', rfl, F', N', p⟩ := q
    exact hret _ _ _ _ F'.keep (fun p hp => ⟨(N' p hp).1, (N' p hp).2.2⟩) p
theorem h_enterXC {name qual : Str} {params : Arguments} {body : List Stmt} {scope : Scope} {dV kV doc pm cdv ct oc : Value} {an od : Option Addr} {osl : Array (Option Value)} {binds : List (Str × Value)}
    (ho : (Mine.hd.heap_39 w.params).lookup f = some ⟨oc, od, .func (fnOf name qual params body scope dV kV doc pm an cdv ct), osl⟩) (hcd : codeIn (Mine.hd.heap_39 w.params) cdv qual = true)
    (hbind : ∀ s : Shared, (Mine.hd.heap_39 w.params).In s.heap → BindsTo s (fnOf name qual params body scope dV kV doc pm an cdv ct) ⟨vs, []⟩ binds)
    (hkind : (binds.all fun y => scope.names.lookup y.1 == some .local || scope.names.lookup y.1 == some .cell) = true) (hnd : ((cellsFrom 0 scope.names []).map (·.1)).Nodup)
    (hco : scope.isCoroutine = false) (hgen : scope.isGenerator = false) (hk : scope.kind = .function) (hl : 0 < lvl)
    (h : ∀ (dp un : Nat) (gd : Option (List Code)) (env : Env) (outer : List Env) (base g : Heap) (L : Addr) (h₁ : Heap) (tk : Nat) (cells : Led) (s : Shared),
      Below (arnd dp un gd (env :: outer)) base (env :: outer) g → Fr g L h₁ (bindL (envOfC qual scope L f cdv).kindOf binds fun _ => none) → News g L h₁ (cells ++ touched) →
      CellsAre (bindC (envOfC qual scope L f cdv).kindOf binds fun _ => none) (cellsFrom (L + 1) scope.names []) cells → (∀ p ∈ touched, p.1 < L) →
      (Mine.hd.heap_39 w.params).In g → TopM mean mg mb g → dp + lvl < recursionLimit → un + 8 * lvl < cLine →
      wpCl (MM w) (ktrTop (dp + 1) (un + 3) gd qual scope L f cdv (cellsFrom (L + 1) scope.names []) (env :: outer)) (execs body (envOfC qual scope L f cdv))
        (fun fl s' => Done g L s post (match fl with | .ret v => v | _ => .none) s') (fun _ _ => False) { s with heap := h₁, toks := tk }) :
    HCtrC w mean mg mb lvl f vs touched post := by
  intro dp un gd env outer base g s R B st sz X T hN hd hu hret
  have Xs : (Mine.hd.heap_39 w.params).In s.heap := X.keeps fun b o e => st b o e
  refine codeCl_call_function (fd := fnOf name qual params body scope dV kV doc pm an cdv ct) (body := body) (by show dp < recursionLimit; omega) (Xs _ _ ho) rfl hco hgen rfl (codeRec_of Xs hcd) (hbind s Xs _ _ _ _ ?_)
  refine wpAny_newFunctionEnv_cells hk (kindsX hkind _) fun env' he s' x => ?_
  subst he
  refine ⟨(T.nolimit.keeps fun b o e => st b o e).keeps x.toInCall.keep, codeCl_func ?_⟩
  obtain ⟨h₁, tk, rfl, _⟩ := x.done
  have hk₁ := x.toInCall.keep
  obtain ⟨cells, NC, Y⟩ := Cl.news (h₀ := s.heap) (Nat.le_refl _) fun n c hm => ⟨x.cell n c (lookup_of_mem_nodup (cellsFrom_names scope.names 0 (s.heap.objs.size + 1) [] [] rfl ▸ hnd) hm), x.above n c hm⟩
  refine cl_mono (h dp un gd env outer base g s.heap.objs.size h₁ tk cells s B ⟨x.toInCall.ns, fun b o e => hk₁ b o (st b o e), sz⟩ (fun p hp => ?_) Y (fun p hp => Heap.lt_size (hN p hp).1) X T hd hu) (fun fl s' q => ?_) fun _ _ e => e.elim
  · rcases List.mem_append.mp hp with hp | hp
    · refine ⟨(NC p hp).1, (NC p hp).2.1, ?_⟩
      cases q : g.get? p.1 with
      | none => rfl
      | some o => have := st _ _ q; rw [(NC p hp).2.2] at this; cases this
    · exact ⟨hk₁ _ _ (hN p hp).1, Nat.ne_of_lt (Heap.lt_size (hN p hp).1), (hN p hp).2⟩
  · obtain ⟨h', tk', m', news', rfl, F', N', p⟩ := q
    exact hret _ _ _ _ F'.keep (fun p hp => ⟨(N' p hp).1, (N' p hp).2.2⟩) p
end
end
section
open PySem PySem.W PyProof.Rows PySem.Calls PySem.Spec PyProof.Rows.LCg

section
variable {prog : Program} {w : World} {A : Around} {s : Shared} {h₀ : Heap} {L : Addr} {m : Str → Option Value} {env : Env}
theorem comp_ind {elt : Expr} {x : Str} {scope : Scope} {cl : List (Str × Addr)} {S : List (Addr × Obj) → Prop} {P : Nat → Value → Prop} {Fin : List Value → List (Addr × Obj) → Prop} (n : Nat) (J : Nat → List Value → Led → Prop)
    (fin : ∀ ys news, J n ys news → Fin ys news)
    (step : ∀ i ys news, i < n → J i ys news → ∀ v I oI C oC D m₂ h tk (E' : Value → Shared → Prop), P i v → NsObj oC m₂ → m₂ x = some v → Fr h₀ L h m → News h₀ L h ((I, oI) :: (C, oC) :: (D, lst ys) :: news) → Off3 I C D news → ((@Ne Nat I C) ∧ (@Ne Nat I D) ∧ (@Ne Nat C D)) →
      wpAny (model prog w) A (eval elt (compEnvC scope cl C env)) (fun y s₂ => ∃ h' tk' news', s₂ = { s with heap := h', toks := tk' } ∧ Fr h₀ L h' m ∧ News h₀ L h' ((I, oI) :: (C, oC) :: (D, lst ys) :: news') ∧ Off3 I C D news' ∧ S news' ∧ J (i + 1) (ys ++ [y]) news') E' { s with heap := h, toks := tk }) :
    ∀ k i ys news, i + k = n → J i ys news → CompRest prog w A h₀ L m env elt x scope cl s S P Fin k i ys news
  | 0, i, ys, news, hi, hJ => CompRest.zero (fin ys news (by rw [show n = i by omega]; exact hJ))
  | k + 1, i, ys, news, hi, hJ => CompRest.succ fun v I oI C oC D m₂ h tk E' hP hN hm F N off ne =>
      wpAny_mono (step i ys news (by omega) hJ v I oI C oC D m₂ h tk E' hP hN hm F N off ne)
        (fun y s₂ q => by
          obtain ⟨h', tk', news', rfl, F', N', off', hS, hJ'⟩ := q
          exact ⟨h', tk', news', rfl, F', N', off', hS, comp_ind n J fin step k (i + 1) (ys ++ [y]) news' (by omega) hJ'⟩) fun _ _ e => e
end
end
section
open PySem PySem.W PyProof.Rows PySem.Calls PySem.Spec

/-- a contract that asks something of the heap below -/
def HCtrP (PG : Heap → Prop) (w : World) (mean : ExcName → Option Value) (mg mb : Str → Option Value) (lvl : Nat) (f : Addr) (vs : List Value) (touched : Led) (post : Value → Led → Prop) : Prop :=
  ∀ (dp un : Nat) (gd : Option (List Code)) (env : Env) (outer : List Env) (base g : Heap) (s : Shared) (R : Result → Shared → Prop),
    Below (arnd dp un gd (env :: outer)) base (env :: outer) g → g.StaysIn s.heap → g.objs.size ≤ s.heap.objs.size →
    (Mine.hd.heap_39 w.params).In g → TopM mean mg mb g → PG g →
    (∀ p ∈ touched, s.heap.get? p.1 = some p.2 ∧ g.get? p.1 = none) → dp + lvl < recursionLimit → un + 8 * lvl < cLine →
    (∀ r news' h' tk', g.StaysIn h' → (∀ p ∈ news', h'.get? p.1 = some p.2 ∧ g.get? p.1 = none) → post r news' → R (.ok (.ret r)) { s with heap := h', toks := tk' }) →
    codeAny (MM w) (arnd dp un gd (env :: outer)) (.call (.ref f) ⟨vs, []⟩) R s

section
variable {w : World} {mean : ExcName → Option Value} {mg mb : Str → Option Value} {lvl : Nat} {f : Addr} {vs : List Value} {touched : Led} {post : Value → Led → Prop}
/-- the entry of a def without cells -/
theorem h_enterP {PG : Heap → Prop} {name qual : Str} {params : Arguments} {body : List Stmt} {scope : Scope} {dV kV doc pm cdv ct oc : Value} {an od : Option Addr} {osl : Array (Option Value)} {binds : List (Str × Value)}
    (ho : (Mine.hd.heap_39 w.params).lookup f = some ⟨oc, od, .func (fnOf name qual params body scope dV kV doc pm an cdv ct), osl⟩) (hcd : codeIn (Mine.hd.heap_39 w.params) cdv qual = true)
    (hbind : ∀ s : Shared, (Mine.hd.heap_39 w.params).In s.heap → BindsTo s (fnOf name qual params body scope dV kV doc pm an cdv ct) ⟨vs, []⟩ binds) (hloc : ∀ y ∈ binds, scope.names.lookup y.1 = some .local)
    (hco : scope.isCoroutine = false) (hgen : scope.isGenerator = false) (hk : scope.kind = .function) (hcell : ∀ x ∈ scope.names, x.2 ≠ .cell) (hl : 0 < lvl)
    (h : ∀ (dp un : Nat) (gd : Option (List Code)) (env : Env) (outer : List Env) (base g : Heap) (L : Addr) (h₁ : Heap) (s : Shared),
      Below (arnd dp un gd (env :: outer)) base (env :: outer) g → Fr g L h₁ (fun y => binds.reverse.lookup y) → News g L h₁ touched → (∀ p ∈ touched, p.1 < L) →
      (Mine.hd.heap_39 w.params).In g → TopM mean mg mb g → PG g → dp + lvl < recursionLimit → un + 8 * lvl < cLine →
      wpAny (MM w) (ktrTop (dp + 1) (un + 3) gd qual scope L f cdv [] (env :: outer)) (execs body (envOf qual scope L f cdv))
        (fun fl s' => Done g L s post (match fl with | .ret v => v | _ => .none) s') (fun _ _ => False) { s with heap := h₁, toks := s.toks + binds.length }) :
    HCtrP PG w mean mg mb lvl f vs touched post := by
  intro dp un gd env outer base g s R B st sz X T pg hN hd hu hret
  have Xs : (Mine.hd.heap_39 w.params).In s.heap := X.keeps st
  refine codeAny_call_def (fd := fnOf name qual params body scope dV kV doc pm an cdv ct) (body := body) (binds := binds) (by show dp < recursionLimit; omega) (Xs _ _ ho) rfl (T.nolimit.keeps st) (codeRec_of Xs hcd) rfl (hbind s Xs) hcell hloc (fun h₁ hns hk₁ => ?_) hco hgen hk
  refine wpAny_mono (h dp un gd env outer base g s.heap.objs.size h₁ s B ⟨hns, fun b o e => hk₁ b o (st b o e), sz⟩ (fun p hp => ⟨hk₁ _ _ (hN p hp).1, Nat.ne_of_lt (Heap.lt_size (hN p hp).1), (hN p hp).2⟩) (fun p hp => Heap.lt_size (hN p hp).1) X T pg hd hu) (fun fl s' q => ?_) fun _ _ e => e.elim
  obtain ⟨h', tk', m', news', rfl, F', N', p⟩ := q
  exact hret _ _ _ _ F'.keep (fun p hp => ⟨(N' p hp).1, (N' p hp).2.2⟩) p

theorem h_codeP {PG : Heap → Prop} (C : HCtrP PG w mean mg mb lvl f vs touched post) {A A₀ : Around} {env : Env} {outer : List Env} {base h₀ : Heap} {L : Addr} {m : Str → Option Value} {s : Shared} {news rest : Led} {R : Result → Shared → Prop}
    (B : Below A₀ base outer h₀) (F : Fr h₀ L s.heap m) (X : (Mine.hd.heap_39 w.params).In h₀) (N : News h₀ L s.heap news) (T : TopM mean mg mb h₀) (pg : PG (hideAll s.heap (touched.map (·.1))))
    (hS : Sels touched news rest) (hh : A.handled = none) (hA : A.frames = some (env :: outer)) (hf : env.frame = some L) (hke : env.scope.kind = .function) (hd : A.depth + lvl < recursionLimit) (hu : A.units + 8 * lvl < cLine)
    (ret : ∀ r news' h' tk', Fr h₀ L h' m → News h₀ L h' (news' ++ rest) → (∀ p ∈ news', ∀ q ∈ rest, p.1 ≠ q.1) → post r news' → R (.ok (.ret r)) { s with heap := h', toks := tk' }) :
    codeAny (MM w) A (.call (.ref f) ⟨vs, []⟩) R s := by
  obtain ⟨s1, s2, s3⟩ := hS.spec
  have Nt : News h₀ L s.heap touched := fun p hp => N p (s1 p hp)
  obtain ⟨FG, BG, stG, lv⟩ := groundX (R := R) B F Nt hA hf hke
  have eA : A = arnd A.depth A.units A.guards (env :: outer) := by
    obtain ⟨a1, a2, a3, a4, a5⟩ := A
    simp only at hh hA
    subst hh hA
    rfl
  rw [eA]
  refine C A.depth A.units A.guards env outer base (hideAll s.heap (touched.map (·.1))) s R ⟨rfl, BG.stays, BG.frames⟩ (fun b o e => of_hideAll _ e) (Nat.le_of_eq (hideAll_size _ _)) (X.keeps fun b o e => stG b o e) (T.keeps fun b o e => stG b o e) pg
    (fun p hp => ⟨(Nt p hp).1, hideAll_none _ (List.mem_map_of_mem hp)⟩) hd hu (fun r news' h' tk' st' hN' hp' => ?_)
  have hL : ∀ p ∈ news', p.1 ≠ L := fun p hp q => by
    obtain ⟨oL, es, ep, hL, _⟩ := FG.ns
    have := (hN' p hp).2; rw [q, hL] at this; cases this
  have rk : ∀ q ∈ rest, (hideAll s.heap (touched.map (·.1))).get? q.1 = some q.2 := fun q hq => hideAll_get _ (N q (s2 q hq)).1 fun hm => by
    obtain ⟨t, ht, e⟩ := List.mem_map.mp hm
    exact s3 q hq t ht e.symm
  refine ret r news' h' tk' ⟨?_, fun b o e => st' b o (stG b o e), F.above⟩ ?_ ?_ hp'
  · obtain ⟨oL, es, ep, hL, hr⟩ := FG.ns
    exact ⟨oL, es, ep, st' _ _ hL, hr⟩
  · intro p hp
    rcases List.mem_append.mp hp with hp | hp
    · refine ⟨(hN' p hp).1, hL p hp, ?_⟩
      cases q : h₀.get? p.1 with
      | none => rfl
      | some o => have := (hN' p hp).2; rw [stG _ _ q] at this; cases this
    · exact ⟨st' _ _ (rk p hp), (N p (s2 p hp)).2⟩
  · intro p hp q hq e
    have := (hN' p hp).2
    rw [e, rk q hq] at this; cases this


theorem h_callP {PG : Heap → Prop} (C : HCtrP PG w mean mg mb lvl f vs touched post) {A A₀ : Around} {env : Env} {outer : List Env} {base h₀ : Heap} {L : Addr} {m : Str → Option Value} {s : Shared} {news rest : Led} {Q E : Value → Shared → Prop}
    (B : Below A₀ base outer h₀) (F : Fr h₀ L s.heap m) (X : (Mine.hd.heap_39 w.params).In h₀) (N : News h₀ L s.heap news) (T : TopM mean mg mb h₀) (pg : PG (hideAll s.heap (touched.map (·.1))))
    (hS : Sels touched news rest) (hh : A.handled = none) (hA : A.frames = some (env :: outer)) (hf : env.frame = some L) (hke : env.scope.kind = .function) (hd : A.depth + lvl < recursionLimit) (hu : A.units + 8 * lvl < cLine)
    (ret : ∀ r news' h' tk', Fr h₀ L h' m → News h₀ L h' (news' ++ rest) → (∀ p ∈ news', ∀ q ∈ rest, p.1 ≠ q.1) → post r news' → Q r { s with heap := h', toks := tk' }) :
    wpAny (MM w) A (call (.ref f) vs) Q E s :=
  wpAny_call (h_codeP C B F X N T pg hS hh hA hf hke hd hu ret)
end
end
section
open PySem PySem.W PyProof.Rows PySem.Calls PySem.Spec

section
variable {prog : Program} {w : World} {A : Around} {E : Value → Shared → Prop} {s : Shared} {h₀ : Heap} {L : Addr} {m : Str → Option Value} {news : Led}
/-- enumerate over a list that no ledger holds any more -/
theorem enum_led {α : Type} {K : ItemKind α} {as : List α} {l : Addr} {vs : List Value} {Q : Value → Shared → Prop} (hh : A.handled = none) (hl : s.heap.IsList l vs.toArray) (hi : AreOf K vs as)
    (F : Fr h₀ L s.heap m) (N : News h₀ L s.heap news) (hlL : l ≠ L) (hln : ∀ q ∈ news, l ≠ q.1)
    (h : ∀ h' e, Fr h₀ L h' m → News h₀ L h' news → PairSrcL prog w A E h₀ L K as (.ref e) { s with heap := h' } m news → Q (.ref e) { s with heap := h' }) :
    wpAny (model prog w) A (call (.type "enumerate") [.ref l]) Q E s := by
  obtain ⟨ol, hol, _⟩ := id hl
  have hl2 : l < s.heap.objs.size := Heap.lt_size hol
  have hLs : L < s.heap.objs.size := F.ns.lt
  have hab : h₀.objs.size ≤ L := F.above
  refine call_enumerate_list hl fun h' he hit hsz hk => ?_
  have F' : Fr h₀ L h' m := ⟨F.ns.keeps hk, fun b o e => hk b o (F.keep b o e), F.above⟩
  have N' : News h₀ L h' news := fun p hp => ⟨hk _ _ (N p hp).1, (N p hp).2⟩
  refine h h' _ F' N' fun env hL => ?_
  subst hL
  refine enumSrc (Draws.list (A := A.in1) hh s.heap.objs.size l (Nat.ne_of_lt hl2) vs.toArray) he ⟨hit, hl.at fun o e => hk l o e⟩ (Nat.succ_ne_self _) ?_ (by simp) ?_
    (Heap.get?_none_of_le (Nat.le_trans hab (Nat.le_of_lt (Nat.lt_succ_of_lt hLs)))) (Heap.get?_none_of_le (Nat.le_trans hab (Nat.le_of_lt hLs))) ?_ (by simp [hi.length]) (fun i x hx => hi.get i x (by simpa using hx)) F' N'
  · intro hm
    rcases List.mem_cons.mp hm with e | hm
    · exact Nat.succ_ne_self _ e
    · exact Nat.ne_of_gt (Nat.lt_succ_of_lt hl2) (List.mem_singleton.mp hm)
  · intro hm
    rcases List.mem_cons.mp hm with e | hm
    · exact Nat.ne_of_lt (Nat.lt_succ_of_lt hLs) e
    · rcases List.mem_cons.mp hm with e | hm
      · exact Nat.ne_of_lt hLs e
      · exact hlL (List.mem_singleton.mp hm).symm
  · intro b hb q hq e
    have hq1 : q.1 < s.heap.objs.size := Heap.lt_size (N q hq).1
    rcases List.mem_cons.mp hb with e1 | hb
    · exact Nat.ne_of_gt (Nat.lt_succ_of_lt hq1) (e1.symm.trans e)
    · rcases List.mem_cons.mp hb with e1 | hb
      · exact Nat.ne_of_gt hq1 (e1.symm.trans e)
      · exact hln q hq ((List.mem_singleton.mp hb).symm.trans e)
end
/-- the purse's bound -/
theorem purse_step {a c Bd : Int} {i : Nat} (ha0 : 0 ≤ a) (ha : a ≤ (2 * Bd + 2) * 1000 ^ i) (hc : c.natAbs ≤ Bd) (b : Int) (hb0 : 0 ≤ b) (hb1 : b ≤ 1) :
    0 ≤ a + (2 * (c.natAbs : Int) + b) * 1000 ^ i ∧ a + (2 * (c.natAbs : Int) + b) * 1000 ^ i ≤ (2 * Bd + 2) * 1000 ^ (i + 1) := by
  have hp : (0 : Int) < 1000 ^ i := Int.pow_pos (by decide)
  have h1 : 0 ≤ (2 * (c.natAbs : Int) + b) * 1000 ^ i := Int.mul_nonneg (by omega) (Int.le_of_lt hp)
  have h2 : (2 * (c.natAbs : Int) + b) * 1000 ^ i ≤ (2 * Bd + 2) * 1000 ^ i := Int.mul_le_mul_of_nonneg_right (by omega) (Int.le_of_lt hp)
  refine ⟨by omega, ?_⟩
  rw [Int.pow_succ, ← Int.mul_assoc]
  omega
end
section
open PySem PySem.W PyProof.Rows PySem.Calls PySem.Spec

section
variable {w : World} {mean : ExcName → Option Value} {mg mb : Str → Option Value} {lvl : Nat} {f : Addr} {vs : List Value}
/-- the law's own entry: the caller has no frame -/
theorem h_top {name qual : Str} {params : Arguments} {body : List Stmt} {scope : Scope} {dV kV doc pm cdv ct oc : Value} {an od : Option Addr} {osl : Array (Option Value)} {binds : List (Str × Value)}
    (ho : (Mine.hd.heap_39 w.params).lookup f = some ⟨oc, od, .func (fnOf name qual params body scope dV kV doc pm an cdv ct), osl⟩) (hcd : codeIn (Mine.hd.heap_39 w.params) cdv qual = true)
    (hbind : ∀ s : Shared, (Mine.hd.heap_39 w.params).In s.heap → BindsTo s (fnOf name qual params body scope dV kV doc pm an cdv ct) ⟨vs, []⟩ binds)
    (hkind : (binds.all fun y => scope.names.lookup y.1 == some .local || scope.names.lookup y.1 == some .cell) = true) (hnd : ((cellsFrom 0 scope.names []).map (·.1)).Nodup)
    (hco : scope.isCoroutine = false) (hgen : scope.isGenerator = false) (hk : scope.kind = .function) (hl : 0 < lvl)
    {dp un : Nat} {gd : Option (List Code)} {s : Shared} {Q E : Value → Shared → Prop} (X : (Mine.hd.heap_39 w.params).In s.heap) (T : TopM mean mg mb s.heap) (hd : dp + lvl < recursionLimit)
    (h : ∀ (L : Addr) (h₁ : Heap) (tk : Nat) (cells : Led),
      Fr s.heap L h₁ (bindL (envOfC qual scope L f cdv).kindOf binds fun _ => none) → News s.heap L h₁ cells →
      CellsAre (bindC (envOfC qual scope L f cdv).kindOf binds fun _ => none) (cellsFrom (L + 1) scope.names []) cells →
      wpCl (MM w) (ktrTop (dp + 1) (un + 3) gd qual scope L f cdv (cellsFrom (L + 1) scope.names []) []) (execs body (envOfC qual scope L f cdv))
        (fun fl s' => Q (match fl with | .ret v => v | _ => .none) s') (fun _ _ => False) { s with heap := h₁, toks := tk }) :
    wpCl (MM w) (arnd dp un gd []) (call (.ref f) vs) Q E s := by
  have Xs := X
  refine cl_call ?_
  refine codeCl_call_function (fd := fnOf name qual params body scope dV kV doc pm an cdv ct) (body := body) (by show dp < recursionLimit; omega) (Xs _ _ ho) rfl hco hgen rfl (codeRec_of Xs hcd) (hbind s Xs _ _ _ _ ?_)
  refine wpAny_newFunctionEnv_cells hk (kindsX hkind _) fun env' he s' x => ?_
  subst he
  refine ⟨T.nolimit.keeps x.toInCall.keep, codeCl_func ?_⟩
  obtain ⟨h₁, tk, rfl, _⟩ := x.done
  have hk₁ := x.toInCall.keep
  obtain ⟨cells, NC, Y⟩ := Cl.news (h₀ := s.heap) (Nat.le_refl _) fun n c hm => ⟨x.cell n c (lookup_of_mem_nodup (cellsFrom_names scope.names 0 (s.heap.objs.size + 1) [] [] rfl ▸ hnd) hm), x.above n c hm⟩
  refine cl_mono (h s.heap.objs.size h₁ tk cells ⟨x.toInCall.ns, fun b o e => hk₁ b o e, Nat.le_refl _⟩ NC Y) (fun fl s' q => q) fun _ _ e => e.elim
end
end
section
open PySem PySem.W PyProof.Rows PySem.Calls PySem.Spec

theorem inv_ONE : ONE * backB ONE = 1 := by decide +kernel
theorem inv_TWO : TWO * backB TWO = 1 := by decide +kernel
theorem inv_THREE : THREE * backB THREE = 1 := by decide +kernel
theorem inv_FIVE : FIVE * backB FIVE = 1 := by decide +kernel
theorem mul_inv {p q : B} (h : p * q = 1) (x : B) : x * p * q = x := by rw [BitVec.mul_assoc, h]; exact BitVec.mul_one x
theorem mul_inv' {p q : B} (h : p * q = 1) (x : B) : x * q * p = x := by rw [BitVec.mul_assoc, BitVec.mul_comm q p, h]; exact BitVec.mul_one x
theorem rotl_back (x : B) (c : Nat) (h0 : 0 < c) (h : c < 64) : rotl (rotl x c) (64 - c) = x := by
  apply BitVec.eq_of_getLsbD_eq
  intro i hi
  simp only [rotl, BitVec.getLsbD_or, BitVec.getLsbD_shiftLeft, BitVec.getLsbD_ushiftRight]
  by_cases h1 : i < 64 - c
  · have e1 : 64 - (64 - c) + i = c + i := by omega
    rw [e1]
    have e2 : c + i - c = i := by omega
    rw [e2, BitVec.getLsbD_of_ge x (64 - c + (c + i)) (by omega)]
    simp [h1, hi, show c + i < 64 by omega]
  · have e1 : 64 - c + (i - (64 - c)) = i := by omega
    rw [e1]
    have e3 : 64 - (64 - c) + i = c + i := by omega
    rw [e3, BitVec.getLsbD_of_ge x (64 - c + (c + i)) (by omega)]
    simp [h1, hi, show i - (64 - c) < c by omega, show ¬ c + i < 64 by omega]
theorem xor_back (x y : B) : x ^^^ y ^^^ y = x := by rw [BitVec.xor_assoc, BitVec.xor_self, BitVec.xor_zero]
theorem shift33 (x : B) : (x ^^^ x >>> 33) ^^^ (x ^^^ x >>> 33) >>> 33 = x := by
  rw [BitVec.ushiftRight_xor_distrib, ← BitVec.shiftRight_add, ← BitVec.xor_assoc, xor_back]
  ext i hi
  simp only [BitVec.getElem_xor, BitVec.getElem_ushiftRight]
  rw [BitVec.getLsbD_of_ge x _ (by omega)]
  simp
theorem shift29 (x : B) : ((x ^^^ x >>> 29) ^^^ (x ^^^ x >>> 29) >>> 29) ^^^ (x ^^^ x >>> 29) >>> 58 = x := by
  simp only [BitVec.ushiftRight_xor_distrib, ← BitVec.shiftRight_add]
  ext i hi
  simp only [BitVec.getElem_xor, BitVec.getElem_ushiftRight]
  rw [BitVec.getLsbD_of_ge x (29 + 58 + i) (by omega)]
  simp only [show 29 + 29 + i = 58 + i from rfl, Bool.xor_false]
  cases x[i] <;> cases x.getLsbD (29 + i) <;> cases x.getLsbD (58 + i) <;> rfl
theorem shift32 (x : B) : (x ^^^ x >>> 32) ^^^ (x ^^^ x >>> 32) >>> 32 = x := by
  rw [BitVec.ushiftRight_xor_distrib, ← BitVec.shiftRight_add, ← BitVec.xor_assoc, xor_back]
  ext i hi
  simp
end
section
open PySem PySem.W PyProof.Rows PySem.Calls PySem.Spec

theorem shift29' (x : B) : (x ^^^ x >>> 29 ^^^ x >>> 58) ^^^ (x ^^^ x >>> 29 ^^^ x >>> 58) >>> 29 = x := by
  simp only [BitVec.ushiftRight_xor_distrib, ← BitVec.shiftRight_add]
  ext i hi
  simp only [BitVec.getElem_xor, BitVec.getElem_ushiftRight]
  rw [BitVec.getLsbD_of_ge x (58 + 29 + i) (by omega)]
  simp only [show 29 + 29 + i = 58 + i from rfl, Bool.xor_false]
  cases x[i] <;> cases x.getLsbD (29 + i) <;> cases x.getLsbD (58 + i) <;> rfl
theorem last_fin (f : B) : lastB (finB f) = f := by
  unfold lastB finB
  dsimp only
  rw [shift32, mul_inv inv_THREE, shift29, mul_inv inv_TWO, shift33]
theorem fin_last (r : B) : finB (lastB r) = r := by
  unfold lastB finB
  dsimp only
  rw [shift33, mul_inv' inv_TWO, shift29', mul_inv' inv_THREE, shift32]
theorem un8 (f v : B) : rotl ((r8 f v - FOUR) * backB ONE) 37 = f ^^^ mixB v := by
  unfold r8
  rw [BitVec.add_sub_cancel, mul_inv inv_ONE]
  exact rotl_back _ 27 (by decide) (by decide)
theorem unmix (v : B) : rotl (mixB v * backB ONE) 33 * backB TWO = v := by
  unfold mixB
  rw [mul_inv inv_ONE, show rotl (rotl (v * TWO) 31) 33 = v * TWO from rotl_back _ 31 (by decide) (by decide), mul_inv inv_TWO]
theorem mix_un (v : B) : mixB (rotl (v * backB ONE) 33 * backB TWO) = v := by
  unfold mixB
  rw [mul_inv' inv_TWO, show rotl (rotl (v * backB ONE) 33) 31 = v * backB ONE from rotl_back _ 33 (by decide) (by decide), mul_inv' inv_ONE]
theorem un4 (f v : B) : u4 (r4 f v) v = f := by
  unfold u4 r4
  rw [BitVec.add_sub_cancel, mul_inv inv_TWO, show rotl (rotl (f ^^^ v * ONE) 23) 41 = _ from rotl_back _ 23 (by decide) (by decide), xor_back]
theorem un4' (f v : B) : rotl ((r4 f v - THREE) * backB TWO) 41 = f ^^^ v * ONE := by
  unfold r4
  rw [BitVec.add_sub_cancel, mul_inv inv_TWO]
  exact rotl_back _ 23 (by decide) (by decide)
theorem r4_un (y v : B) : r4 (u4 y v) v = y := by
  unfold u4 r4
  rw [xor_back, show rotl (rotl ((y - THREE) * backB TWO) 41) 23 = _ from rotl_back _ 41 (by decide) (by decide), mul_inv' inv_TWO, BitVec.sub_add_cancel]
theorem un1 (f o : B) : rotl (r1 f o * backB ONE) 53 = f ^^^ o * FIVE := by
  unfold r1
  rw [mul_inv inv_ONE]
  exact rotl_back _ 11 (by decide) (by decide)
theorem u1_r1 (f : B) (k : Int) : u1 (r1 f (BitVec.ofInt 64 k)) k = f := by
  unfold u1
  rw [un1, xor_back]
theorem r1_u1 (y : B) (k : Int) : r1 (u1 y k) (BitVec.ofInt 64 k) = y := by
  unfold u1 r1
  rw [xor_back, show rotl (rotl (y * backB ONE) 53) 11 = _ from rotl_back _ 53 (by decide) (by decide), mul_inv' inv_ONE]
theorem fold_tail : ∀ (ks : List Int) (f : B), ks.reverse.foldl u1 (tailB f ks) = f
  | [], f => rfl
  | k :: r, f => by
    rw [tailB, List.reverse_cons, List.foldl_append, fold_tail r]
    exact u1_r1 f k
theorem tail_fold : ∀ (ks : List Int) (y : B), tailB (ks.reverse.foldl u1 y) ks = y
  | [], y => rfl
  | k :: r, y => by
    rw [tailB, List.reverse_cons, List.foldl_append]
    show tailB (r1 (u1 (r.reverse.foldl u1 y) k) (BitVec.ofInt 64 k)) r = y
    rw [r1_u1, tail_fold r]
theorem tail_step (f : B) (ks : List Int) : tailU (step4 f ks) ks = f := by
  unfold tailU step4
  by_cases h : 4 ≤ ks.length
  · rw [if_pos (show 3 < ks.length from h), if_pos h, fold_tail, un4]
  · rw [if_neg (show ¬ 3 < ks.length from h), if_neg h, fold_tail]
theorem step_tail (y : B) (ks : List Int) : step4 (tailU y ks) ks = y := by
  unfold tailU step4
  by_cases h : 4 ≤ ks.length
  · rw [if_pos (show 3 < ks.length from h), if_pos h, r4_un, tail_fold]
  · rw [if_neg (show ¬ 3 < ks.length from h), if_neg h, tail_fold]
end
section
open PySem PySem.W PyProof.Rows PySem.Calls PySem.Spec

theorem xor_mid (x y : B) : x ^^^ y ^^^ x = y := by rw [BitVec.xor_comm x y, xor_back]
theorem absorb_app {f : B} {p t : List Int} (h : p.length = 8) : absorb f (p ++ t) = absorb (r8 f (BitVec.ofInt 64 (low p))) t := by
  rw [absorb_8 (by rw [List.length_append]; omega), List.take_left' h, List.drop_left' h]
theorem absorb_short {f : B} {t : List Int} (h : t.length < 8) : absorb f t = step4 f t := by rw [absorb_eq, if_neg (by omega)]
theorem absorb_begun {sd : B} {a r : List Int} {n : Int} (h : a.length = 0 ∨ a.length = 8) : absorb (sd + FIVE + BitVec.ofInt 64 n) (a ++ r) = absorb (begunB sd a n) r := by
  rcases h with h | h
  · obtain rfl := List.length_eq_zero_iff.mp h
    rfl
  · rw [absorb_app h, begunB, if_pos h]
theorem tailU_short {y : B} {t : List Int} (h : t.length < 4) : tailU y t = t.reverse.foldl u1 y := by rw [tailU, if_neg (by omega)]
theorem len3 (a p t : List Int) : ((a ++ p ++ t).length : Int) = (a.length : Int) + (p.length : Int) + (t.length : Int) := by
  rw [List.length_append, List.length_append]; omega
theorem num_8 {sd : B} {a p t : List Int} (ha : a.length = 0 ∨ a.length = 8) (hp : p.length = 8) (ht : t.length < 8) : numB (hashB sd (a ++ p ++ t)) sd a 8 t = BitVec.ofInt 64 (low p) := by
  unfold numB hashB
  dsimp only
  rw [if_pos rfl, last_fin, len3, hp, List.append_assoc, absorb_begun ha, absorb_app hp, absorb_short ht, tail_step, un8]
  show rotl ((begunB sd a _ ^^^ mixB _ ^^^ begunB sd a _) * backB ONE) 33 * backB TWO = _
  rw [xor_mid, unmix]
theorem hash_8 {sd goal : B} {a o t : List Int} (ha : a.length = 0 ∨ a.length = 8) (ho : o.length = 8) (ht : t.length < 8) (h : BitVec.ofInt 64 (low o) = numB goal sd a 8 t) : hashB sd (a ++ o ++ t) = goal := by
  unfold hashB
  rw [len3, ho, List.append_assoc, absorb_begun ha, absorb_app ho, absorb_short ht, h]
  unfold numB
  dsimp only
  rw [if_pos rfl]
  show finB (step4 (r8 (begunB sd a _) (rotl ((rotl ((tailU (lastB goal) t - FOUR) * backB ONE) 37 ^^^ begunB sd a _) * backB ONE) 33 * backB TWO)) t) = goal
  generalize begunB sd a ((a.length : Int) + ((8 : Nat) : Int) + (t.length : Int)) = st
  have e : r8 st (rotl ((rotl ((tailU (lastB goal) t - FOUR) * backB ONE) 37 ^^^ st) * backB ONE) 33 * backB TWO) = tailU (lastB goal) t := by
    unfold r8
    rw [mix_un, BitVec.xor_comm (rotl _ 37) st, ← BitVec.xor_assoc, BitVec.xor_self, BitVec.zero_xor,
      show rotl (rotl ((tailU (lastB goal) t - FOUR) * backB ONE) 37) 27 = _ from rotl_back _ 37 (by decide) (by decide), mul_inv' inv_ONE, BitVec.sub_add_cancel]
  rw [e, step_tail, fin_last]
theorem num_4 {sd : B} {p t : List Int} (hp : p.length = 4) (ht : t.length < 4) : numB (hashB sd ([] ++ p ++ t)) sd [] 4 t = BitVec.ofInt 64 (low p) := by
  unfold numB hashB
  dsimp only
  rw [if_neg (by decide), if_pos rfl, last_fin, len3, hp, List.append_assoc, absorb_begun (.inl rfl), absorb_short (by rw [List.length_append]; omega), step4, if_pos (by rw [List.length_append]; omega),
    List.take_left' hp, List.drop_left' hp, tailU_short ht, fold_tail, un4']
  show (begunB sd [] _ ^^^ BitVec.ofInt 64 (low p) * ONE ^^^ begunB sd [] _) * backB ONE = _
  rw [xor_mid, mul_inv inv_ONE]
theorem num_1 {sd : B} {p t : List Int} (hp : p.length = 1) (ht : t.length < 3) : numB (hashB sd ([] ++ p ++ t)) sd [] 1 t = BitVec.ofInt 64 (low p) := by
  obtain ⟨k, rfl⟩ := List.length_eq_one_iff.mp hp
  unfold numB hashB
  dsimp only
  rw [if_neg (by decide), if_neg (by decide), last_fin, len3, hp, List.append_assoc, absorb_begun (.inl rfl), absorb_short (by rw [List.length_append]; omega), step4, if_neg (by rw [List.length_append]; omega),
    tailU_short (by omega)]
  generalize begunB sd [] _ = st
  rw [show [k] ++ t = k :: t from rfl, tailB, fold_tail, un1, xor_mid, mul_inv inv_FIVE]
  simp [low]
end
section
open PySem PySem.W PyProof.Rows PySem.Calls PySem.Spec

abbrev Oct (l : List Int) : Prop := ∀ k ∈ l, 0 ≤ k ∧ k < 256
theorem low_cons (k : Int) (l : List Int) : low (k :: l) = k + 256 * low l := rfl
theorem low_inj : ∀ {l l' : List Int}, Oct l → Oct l' → l.length = l'.length → low l = low l' → l = l'
  | [], [], _, _, _, _ => rfl
  | [], _ :: _, _, _, h, _ => by simp at h
  | _ :: _, [], _, _, h, _ => by simp at h
  | k :: l, k' :: l', h, h', hn, e => by
    rw [low_cons, low_cons] at e
    have h1 := h k (.head _)
    have h2 := h' k' (.head _)
    have : k = k' := by omega
    have : low l = low l' := by omega
    subst k'
    rw [low_inj (fun z hz => h z (.tail _ hz)) (fun z hz => h' z (.tail _ hz)) (by simpa using hn) this]
theorem low_B_inj {l l' : List Int} (h : Oct l) (h' : Oct l') (hn : l.length = l'.length) (h8 : l.length ≤ 8) (e : BitVec.ofInt 64 (low l) = BitVec.ofInt 64 (low l')) : l = l' := by
  refine low_inj h h' hn ?_
  rw [low_I h h8, low_I h' (by omega), e]
/-- the octets of a number -/
def octs (z : Int) : Nat → List Int
  | 0 => []
  | n + 1 => z % 256 :: octs (z / 256) n
theorem octs_len (z : Int) (n : Nat) : (octs z n).length = n := by
  induction n generalizing z with
  | zero => rfl
  | succ n ih => rw [octs, List.length_cons, ih]
theorem octs_oct (z : Int) (n : Nat) : Oct (octs z n) := by
  induction n generalizing z with
  | zero => intro k hk; cases hk
  | succ n ih =>
    intro k hk
    rcases List.mem_cons.mp hk with rfl | hk
    · omega
    · exact ih _ k hk
theorem low_octs (z : Int) (n : Nat) (h0 : 0 ≤ z) (h : z < 256 ^ n) : low (octs z n) = z := by
  induction n generalizing z with
  | zero => 
    simp at h
    show (0 : Int) = z
    omega
  | succ n ih =>
    rw [octs, low_cons, ih (z / 256) (by omega) (by rw [Int.pow_succ] at h; omega)]
    omega
theorem octs_get (z : Int) (n i : Nat) (hi : i < n) : (octs z n)[i]? = some (z / 256 ^ i % 256) := by
  induction n generalizing z i with
  | zero => omega
  | succ n ih =>
    cases i with
    | zero => simp [octs]
    | succ i =>
      rw [octs, List.getElem?_cons_succ, ih _ _ (by omega), Int.pow_succ, Int.mul_comm, Int.ediv_ediv_of_nonneg (by decide)]
end
set_option compiler.extract_closed false in
local macro_rules | `(tactic| mul_fits) => `(tactic| k_extra "my fits")
set_option compiler.extract_closed false in
local macro_rules | `(tactic| walk_at $s:str) => if ["subscriptTail", "call builtin:len", "binaryOp LShift int int", "binaryOp RShift int int", "binaryOp Mult int int", "binaryOp FloorDiv int int", "call ref", "exec For Name Subscript cons nil", "eval ListComp", "exec If", "pyIter ref", "call type:enumerate", "binaryOp Add bytes bytes"].contains s.getString then `(tactic| k_extra $s) else Lean.Macro.throwUnsupported
theorem my_words : True := by
  k_with "my fits" => first | exact IntMulOk.of_left (I_bits _) | exact IntMulOk.of_right (I_bits _)
  k_with "my enter" => ((refine' h_enter ?ho ?hcd ?hbind ?hloc ?hco ?hgen ?hk ?hcell ?hl ?_; (case ho => k_dflt k_is); (case hcd => k_dflt k_is); (case hbind => intro sw Xw; first | exact BindsTo.of_eq rfl | (k_dflt exact binds_K Xw rfl (by k_is) rfl rfl rfl)); (case hloc => exact locs rfl); (case hco => exact rfl); (case hgen => exact rfl); (case hk => exact rfl); (case hcell => decide); (case hl => decide); k_whole; intro dpw unw gdw envw outerw basew gw Lw hw₁ sw Bw Fw Nw l1w Xw Tw hdw huw; (have hdr := room1 hdw); (have hur := room3 huw); clear hdw huw; (try k_lt l1w); (try dsimp only); (with_reducible show wpAny _ _ _ _ _ _); k_fold))
  k_with "my enterC" => ((refine' h_enterC ?ho ?hcd ?hbind ?hloc ?hco ?hgen ?hk ?hcell ?hl ?_; (case ho => k_dflt k_is); (case hcd => k_dflt k_is); (case hbind => intro sw Xw; first | exact BindsTo.of_eq rfl | (k_dflt exact binds_K Xw rfl (by k_is) rfl rfl rfl)); (case hloc => exact locs rfl); (case hco => exact rfl); (case hgen => exact rfl); (case hk => exact rfl); (case hcell => decide); (case hl => decide); k_whole; intro dpw unw gdw envw outerw basew gw Lw hw₁ sw Bw Fw Nw l1w Xw Tw hdw huw; (have hdr := room1 hdw); (have hur := room3 huw); clear hdw huw; (try k_lt l1w); (try dsimp only); (with_reducible show wpCl _ _ _ _ _ _)))
  k_with "my done" => ((first | k_unfold | skip); (try dsimp only))
  k_with "subscriptTail" => (k_here; (with_reducible show wpAny _ _ (subscriptTail _ _ (Value.ref _) (Value.int _ _)) _ _ _); k_dflt (refine' item_baK ?bo ?bf ?b0 ?b1 ?_; (case bo => exact News.get (by k_asm) (by k_mem)); (case bf => first | assumption | omega); (case b0 => first | assumption | omega); (case b1 => first | assumption | omega)); intro _ _ baLo baHi; (try dsimp only))
  k_with "subscriptTail" => (k_here; (with_reducible show wpAny _ _ (subscriptTail _ (Expr.Slice _ _ none _) (Value.bytes _ _) (Value.ref _)) _ _ _); (with_reducible rename Fr _ _ _ _ => Fw3); (with_reducible rename News _ _ _ _ => Nw3); (refine KBc.slice_K (s := ⟨_, _, _, _, _⟩) Fw3 Nw3 rfl (by constructor) (by constructor) (by walk_at "my len") ?_); intro _ _ _ _ _ kbcK; (try simp only [Option.elim, KBc.clip_lit, clipAt_nat, List.drop_zero, Nat.sub_zero] at kbcK))
  k_with "subscriptTail" => (k_here; (with_reducible show wpAny _ _ (subscriptTail _ (Expr.Slice none none (some _) _) (Value.bytes _ _) (Value.ref _)) _ _ _); (with_reducible rename Fr _ _ _ _ => Fw3); (with_reducible rename News _ _ _ _ => Nw3); (refine rev_K (s := ⟨_, _, _, _, _⟩) Fw3 Nw3 (by walk_at "my len") ?_); intro _ _ _ _ _)
  k_with "subscriptTail" => (k_here; (with_reducible show wpAny _ _ (subscriptTail _ _ (Value.bytes _ _) (Value.int _ _)) _ _ _); (refine KBw.item_K rfl (by walk_at "my blen") (by walk_at "my blen") (by walk_at "my blen") ?_); intro _ _ baLo baHi; (try dsimp only))
  k_with "my blen" => first | omega | (rw [KBw.ints_length]; omega)
  k_with "exec For Name Subscript cons nil" => (k_here; (rename Fr _ _ _ _ => lFw); (with_unfolding_all refine' For_invVF lFw ?k1 ?k2 ?_; (case k1 => exact rfl); (case k2 => exact rfl); k_whole))
  k_with "call builtin:len" => (k_here; (with_reducible show wpAny _ _ (call (Value.builtin "len") [Value.ref _]) _ _ _); k_dflt (refine' len_ba ?bo ?bf ?_; (case bo => exact News.get (by k_asm) (by k_mem)); (case bf => first | assumption | omega)))
  k_with "binaryOp LShift int int" => ((with_reducible refine lshift_int_small ?kb1 ?kb2 ?kb3 ?_); (case kb1 => omega); (case kb2 => omega); (case kb3 => first | decide | exact I_abs _ | omega))
  k_with "binaryOp RShift int int" => ((with_reducible refine rshift_int ?kb1 ?_); (case kb1 => omega))
  k_with "binaryOp Mult int int" => ((with_reducible refine mul_int ?_ ?hm); (case hm => first | exact IntMulOk.of_right (by decide) | exact IntMulOk.of_left (by decide) | exact IntMulOk.of_left (I_bits _) | exact IntMulOk.of_right (I_bits _) | exact IntMulOk.of_left (intBits_le_64 (by omega) (by omega)) | exact IntMulOk.of_right (intBits_le_64 (by omega) (by omega))))
  k_with "my bv" => ((try simp only [mask_I, fmod_I, emod_I, o_add, o_mul, o_sub, ofInt_I, xor_I, shr_J, o_zero, Int.zero_add, b_zero_add]) <;> exact rfl)
  k_with "my sides" => ((case cB => k_asm); (case cF => k_asm); (case cX => k_asm); (case cN => k_asm); (case cT => k_asm); (case ch => exact rfl); (case cA => exact rfl); (case cf => exact rfl); (case ck => exact rfl); (case cd => walk_at "my room"); (case cu => walk_at "my room"))
  k_with "my room" => first | k_dflt exact lt_room (by assumption) (by decide) | (show _ + _ < recursionLimit; (try dsimp only [ktrTop, Around.deeper, Around.under]); omega) | (show _ + _ < cLine; (try dsimp only [ktrTop, Around.deeper, Around.under]); omega) | omega
  k_with "my nil" => (intro hw2 tkw2 tw2 Fw2 Nw2; (try dsimp only); (try k_fold))
  k_with "my same" => (intro hw2 tkw2 tw2 Fw2 Nw2; (try simp only [List.cons_append, List.nil_append] at Nw2); (try dsimp only); (try k_fold))
  k_with "my ne" => ((try dsimp only); first | assumption | (exact Ne.symm (by assumption)) | k_ne)
  k_with "my apart" => first | exact (fun _ h => absurd h List.not_mem_nil) | (refine List.forall_mem_cons.mpr ⟨?_, ?_⟩; (walk_at "my ne"); walk_at "my apart")
  k_with "my sel" => first | (apply Sel.head; walk_at "my apart") | (apply Sel.tail; (walk_at "my ne"); walk_at "my sel")
  k_with "my sels" => first | exact Sels.nil | (apply Sels.cons; walk_at "my sel"; walk_at "my sels")
  k_with "my sub" => first | exact (fun _ h => absurd h List.not_mem_nil) | (refine List.forall_mem_cons.mpr ⟨?_, ?_⟩; (k_mem); walk_at "my sub")
  k_with "my len" => first | omega | exact Nat.le_trans (KBc.size_picked_le _ _ _) (by omega) | (rw [KBw.ints_length]; first | omega | exact Nat.le_trans (KBc.size_picked_le _ _ _) (by omega))
  k_with "my left" => k_dflt (k_dflt (refine' h_call0 (c_left_turned _ _ _ _ _ _ _ _ _ _ _ ?hv ?hc ?hn) ?cB ?cF ?cX ?cN ?cT ?ch ?cA ?cf ?ck ?cd ?cu ?_); (case hv => walk_at "my bv"); (case hc => exact rfl); (case hn => decide); walk_at "my sides"; walk_at "my nil")
  k_with "my mixed" => k_dflt (k_dflt (refine' h_call0 (c_mixed_low _ _ _ _ _ _ _ _ _ rfl ?hi ?hl) ?cB ?cF ?cX ?cN ?cT ?ch ?cA ?cf ?ck ?cd ?cu ?_); (case hi => exact take_in (fun k hk => KBw.ints_in hk)); (case hl => exact take_le8 _ _ (by decide)); walk_at "my sides"; walk_at "my nil")
  k_with "my whole" => k_dflt (k_dflt (refine' h_call0 (c_lawwhole _ _ _ _) ?cB ?cF ?cX ?cN ?cT ?ch ?cA ?cf ?ck ?cd ?cu ?_); walk_at "my sides"; walk_at "my nil")
  k_with "my back" => k_dflt (k_dflt (first
    | refine' h_call0 (c_lawback _ _ _ _ _ ONE _ I_ONE) ?cB ?cF ?cX ?cN ?cT ?ch ?cA ?cf ?ck ?cd ?cu ?_
    | refine' h_call0 (c_lawback _ _ _ _ _ TWO _ I_TWO) ?cB ?cF ?cX ?cN ?cT ?ch ?cA ?cf ?ck ?cd ?cu ?_
    | refine' h_call0 (c_lawback _ _ _ _ _ THREE _ I_THREE) ?cB ?cF ?cX ?cN ?cT ?ch ?cA ?cf ?ck ?cd ?cu ?_
    | refine' h_call0 (c_lawback _ _ _ _ _ FIVE _ I_FIVE) ?cB ?cF ?cX ?cN ?cT ?ch ?cA ?cf ?ck ?cd ?cu ?_); walk_at "my sides"; walk_at "my nil")
  k_with "my turned" => k_dflt (k_dflt (refine' h_call0 (c_lawturned _ _ _ _ _ _ _ _ _ _ ?hv ?hc ?hn) ?cB ?cF ?cX ?cN ?cT ?ch ?cA ?cf ?ck ?cd ?cu ?_); (case hv => walk_at "my bv"); (case hc => exact rfl); (case hn => decide); walk_at "my sides"; walk_at "my nil")
  k_with "my lawlow" => k_dflt (k_dflt (refine' h_call0 (c_lawlow _ _ _ _ _ _ ?hb) ?cB ?cF ?cX ?cN ?cT ?ch ?cA ?cf ?ck ?cd ?cu ?_); (case hb => walk_at "my len"); walk_at "my sides"; walk_at "my nil")
  k_with "my eight" => k_dflt (k_dflt (refine' h_call0 (c_laweight _ _ _ _ _ _ ?hb) ?cB ?cF ?cX ?cN ?cT ?ch ?cA ?cf ?ck ?cd ?cu ?_); (case hb => omega); walk_at "my sides"; walk_at "my nil")
  k_with "my begun" => k_dflt (k_dflt (refine' h_call0 (c_lawbegun _ _ _ _ _ _ _ _ _ _ _ ?hv ?hb) ?cB ?cF ?cX ?cN ?cT ?ch ?cA ?cf ?ck ?cd ?cu ?_); (case hv => exact rfl); (case hb => assumption); walk_at "my sides"; walk_at "my nil")
  k_with "my last" => k_dflt (k_dflt (refine' h_call0 (c_lawlast _ _ _ _ _ _ _ ?hv) ?cB ?cF ?cX ?cN ?cT ?ch ?cA ?cf ?ck ?cd ?cu ?_); (case hv => exact rfl); walk_at "my sides"; walk_at "my nil")
  k_with "my tail" => k_dflt (k_dflt (refine' h_call0 (c_lawtail _ _ _ _ _ _ _ _ _ ?hv ?hb) ?cB ?cF ?cX ?cN ?cT ?ch ?cA ?cf ?ck ?cd ?cu ?_); (case hv => exact rfl); (case hb => omega); walk_at "my sides"; walk_at "my nil")
  k_with "call ref" => (k_here; first
    | ((with_reducible show wpAny _ _ (call (Value.ref 28) _) _ _ _); walk_at "my left")
    | ((with_reducible show wpAny _ _ (call (Value.ref 57) _) _ _ _); walk_at "my mixed")
    | ((with_reducible show wpAny _ _ (call (Value.ref 93) _) _ _ _); walk_at "my whole")
    | ((with_reducible show wpAny _ _ (call (Value.ref 120) _) _ _ _); walk_at "my back")
    | ((with_reducible show wpAny _ _ (call (Value.ref 127) _) _ _ _); walk_at "my turned")
    | ((with_reducible show wpAny _ _ (call (Value.ref 132) _) _ _ _); walk_at "my lawlow")
    | ((with_reducible show wpAny _ _ (call (Value.ref 139) _) _ _ _); walk_at "my eight")
    | ((with_reducible show wpAny _ _ (call (Value.ref 146) _) _ _ _); walk_at "my begun")
    | ((with_reducible show wpAny _ _ (call (Value.ref 153) _) _ _ _); walk_at "my last")
    | ((with_reducible show wpAny _ _ (call (Value.ref 160) _) _ _ _); walk_at "my tail")
    | ((with_reducible show wpAny _ _ (call (Value.ref 108) _) _ _ _); walk_at "my digit")
    | ((with_reducible show wpAny _ _ (call (Value.ref 113) _) _ _ _); walk_at "my octets"))
  k_with "my digit" => k_dflt (refine' digit_call ?zF ?zN ?zS ?z0 ?z1 ?zm0 ?zm1 ?cB ?cX ?cT ?ch ?cA ?cf ?ck ?cd ?cu ?_; (case zF => k_asm); (case zN => k_asm); (case zS => walk_at "my sel"); (case z0 => k_asm); (case z1 => k_asm); (case zm0 => walk_at "my small"); (case zm1 => walk_at "my small"); (case cB => k_asm); (case cX => k_asm); (case cT => k_asm); (case ch => exact rfl); (case cA => exact rfl); (case cf => exact rfl); (case ck => exact rfl); (case cd => walk_at "my room"); (case cu => walk_at "my room"); intro dw xw tw1 tw2 hw2 tkw2 dw0 dw1 xw0 xw1 Fw2 Nw2; (try dsimp only); (try k_fold))
  k_with "my octets" => k_dflt (refine' octets_call ?zF ?zN ?zS ?z0 ?z1 ?zm0 ?zm1 ?cB ?cX ?cT ?ch ?cA ?cf ?ck ?cd ?cu ?_; (case zF => k_asm); (case zN => k_asm); (case zS => walk_at "my sel"); (case z0 => k_asm); (case z1 => k_asm); (case zm0 => walk_at "my small"); (case zm1 => walk_at "my small"); (case cB => k_asm); (case cX => k_asm); (case cT => k_asm); (case ch => exact rfl); (case cA => exact rfl); (case cf => exact rfl); (case ck => exact rfl); (case cd => walk_at "my room"); (case cu => walk_at "my room"); intro bw xw tw1 tw2 hw2 tkw2 bw0 xw0 xw1 Fw2 Nw2; (try dsimp only); (try k_fold))
  k_with "binaryOp Add bytes bytes" => (k_here; (with_reducible show wpAny _ _ (binaryOp Operator.Add (Value.bytes _ _) (Value.bytes _ _)) _ _ _); (refine KBy.add_bytes (by first | omega | (simp only [Array.size_append]; omega)) ?_); intro _ _)
  k_with "my small" => first | decide | omega | ((try split) <;> omega)
  exact trivial
section
theorem c_left_turned (w : World) mean mg mb (v c : Int) (x : B) (n : Nat) (t1 t2 t3 : Tok) (hv : v = I x) (hc : c = (n : Int)) (hn : n ≤ 64) :
    HCtr w mean mg mb 1 28 [.int v t1, .int c t2, .int 64 t3] [] (fun r news' => news' = [] ∧ ∃ t, r = .int (I (rotl x n)) t) := by
  subst hv hc
  have h0 := I_nn x
  have h1 := I_lt x
  walk_at "my enter"
  k_steps
  walk_at "my done"
  refine Done.intro [] (by k_asm) (by k_asm) ⟨rfl, _, congrArg (fun z => Value.int z _) ?_⟩
  exact left_I x n hn
end
section
theorem c_low_first (w : World) mean mg mb (bt : Addr) (b : Array UInt8) (bg : Int) (cn : Int) (n : Nat) (t1 t2 : Tok) (h0 : 0 ≤ bg) (h1 : bg + n ≤ b.size) (h2 : b.size ≤ 1000) (hcn : cn = (n : Int)) (hn : n ≤ 8) :
    HCtr w mean mg mb 2 21 [.ref bt, .int bg t1, .int cn t2] [(bt, baOf b)] (fun r news' => news' = [(bt, baOf b)] ∧ ∃ t, r = .int (low (((KBw.bInts b).drop bg.toNat).take n)) t) := by
  subst hcn
  have hlen := KBw.ints_length b
  have hin : ∀ k ∈ KBw.bInts b, 0 ≤ k ∧ k < 256 := fun k hk => KBw.ints_in hk
  walk_at "my enter"
  k_with "pyIter ref" => k_state (fun (pre : List Int) (found : Int) => pre.length ≤ n ∧ found = low (((KBw.bInts b).drop bg.toNat).take pre.length)) "found"
  k_with "state" => first | exact ⟨Nat.zero_le _, by simp [low]⟩ | exact ⟨by rw [List.length_append, List.length_singleton]; omega, by rw [List.length_append, List.length_singleton]; exact low_step hin h0 (by omega) (by assumption) (by assumption)⟩
  k_steps
  walk_at "my done"
  refine Done.intro [(bt, baOf b)] (by k_asm) (by k_asm) ⟨rfl, _, congrArg (fun z => Value.int z _) ?_⟩
  rename_i hlow
  simp only [rangeKs_length] at hlow
  rw [hlow]
  congr 1
end
section
theorem c_mixed (w : World) mean mg mb (self : Value) (v z : Int) (y : B) (t1 t2 : Tok) (hv : v = I y) (hz : z = 0) :
    HCtr w mean mg mb 2 57 [self, .int z t1, .int v t2] [] (fun r news' => news' = [] ∧ ∃ t, r = .int (I (mixB y)) t) := by
  subst hv hz
  have h0 := I_nn y
  have h1 := I_lt y
  walk_at "my enter"
  k_steps
  walk_at "my done"
  refine Done.intro [] (by k_asm) (by k_asm) ⟨rfl, _, congrArg (fun z => Value.int z _) ?_⟩
  walk_at "my bv"
end
section
theorem c_whole (w : World) mean mg mb (x dx ln kp : Addr) (g1 g2 g3 g4 : Int) (k1 k2 k3 k4 t1 t4 : Tok) (sd : B) (n : Int) (hn : n < 32) (hx : x ≠ dx) :
    HCtr w mean mg mb 2 64 [.ref x] [(x, instObj 74 dx), (dx, dictOf [⟨g1, .str (Str.ofString "seed") k1, .int (I sd) t1⟩, ⟨g2, .str (Str.ofString "lanes") k2, .ref ln⟩, ⟨g3, .str (Str.ofString "kept") k3, .ref kp⟩, ⟨g4, .str (Str.ofString "count") k4, .int n t4⟩] 4)]
      (fun r news' => news' = [(x, instObj 74 dx), (dx, dictOf [⟨g1, .str (Str.ofString "seed") k1, .int (I sd) t1⟩, ⟨g2, .str (Str.ofString "lanes") k2, .ref ln⟩, ⟨g3, .str (Str.ofString "kept") k3, .ref kp⟩, ⟨g4, .str (Str.ofString "count") k4, .int n t4⟩] 4)] ∧ ∃ t, r = .int (I (sd + FIVE)) t) := by
  have h0 := I_nn sd
  have h1 := I_lt sd
  walk_at "my enter"
  k_steps
  walk_at "my done"
  refine Done.intro [(x, instObj 74 dx), (dx, dictOf [⟨g1, .str (Str.ofString "seed") k1, .int (I sd) t1⟩, ⟨g2, .str (Str.ofString "lanes") k2, .ref ln⟩, ⟨g3, .str (Str.ofString "kept") k3, .ref kp⟩, ⟨g4, .str (Str.ofString "count") k4, .int n t4⟩] 4)] (by k_asm) (by k_asm) ⟨rfl, _, congrArg (fun z => Value.int z _) ?_⟩
  walk_at "my bv"
end
section
theorem news_sub {g : Heap} {L : Addr} {h : Heap} {l l' : Led} (N : News g L h l) (hs : ∀ p ∈ l', p ∈ l) : News g L h l' := fun p hp => N p (hs p hp)
theorem take_in {l : List Int} {i n : Nat} (h : ∀ k ∈ l, 0 ≤ k ∧ k < 256) : ∀ k ∈ (l.drop i).take n, 0 ≤ k ∧ k < 256 := fun k hk => h k (List.mem_of_mem_drop (List.mem_of_mem_take hk))
theorem take_le8 (l : List Int) (n : Nat) (h : n ≤ 8) : (l.take n).length ≤ 8 := by rw [List.length_take]; omega
theorem c_mixed_low (w : World) mean mg mb (self : Value) (z : Int) (l : List Int) (t1 t2 : Tok) (hz : z = 0) (hi : ∀ k ∈ l, 0 ≤ k ∧ k < 256) (hl : l.length ≤ 8) :
    HCtr w mean mg mb 2 57 [self, .int z t1, .int (low l) t2] [] (fun r news' => news' = [] ∧ ∃ t, r = .int (I (mixB (BitVec.ofInt 64 (low l)))) t) :=
  c_mixed w mean mg mb self _ z _ t1 t2 (low_I hi hl) hz
def Stop (p : Prop) : Prop := p
theorem stop {p : Prop} (h : Stop p) : p := h
theorem walk_1k {A y : B} {ks : List Int} {bg k : Int} {n m N : Nat} (e : A = tailB y (ks.drop (bg + (n : Int)).toNat)) (hk : k = bg + n) (h0 : 0 ≤ bg) (hm : m = n + 1) (hl : ks.length = N) (hn : n < ((N : Int) - bg).toNat) :
    A = tailB (r1 y (BitVec.ofInt 64 (ks.getD k.toNat 0))) (ks.drop (bg + (m : Int)).toNat) := by
  subst hk hm hl
  rw [show bg + ((n + 1 : Nat) : Int) = bg + n + 1 by rw [Int.natCast_add, ← Int.add_assoc]; rfl]
  have h1 := Int.lt_toNat.mp hn
  exact walk_1 (Int.add_nonneg h0 (Int.natCast_nonneg n)) (Int.add_comm _ _ ▸ Int.add_lt_of_lt_sub_right h1) e
theorem meas8 {n : Nat} {f : Int} (h0 : 0 ≤ f) (h : 8 ≤ (n : Int) - f) : n - (f + 8).toNat < n - f.toNat :=
  Nat.sub_lt_sub_left ((Int.toNat_lt h0).mpr (Int.lt_of_sub_pos (Int.lt_of_lt_of_le (by decide) h))) ((Int.toNat_lt_toNat (Int.lt_of_lt_of_le (by decide : (0 : Int) < 8) (Int.le_add_of_nonneg_left h0))).mpr (Int.lt_add_of_pos_right f (by decide)))
theorem end_i {ks : List Int} {bg : Int} {N : Nat} (h1 : bg ≤ (N : Int)) (hl : ks.length = N) : ks.length ≤ (bg + ((((N : Int) - bg).toNat : Nat) : Int)).toNat := by
  rw [Int.toNat_of_nonneg (Int.sub_nonneg_of_le h1), Int.add_comm, Int.sub_add_cancel, Int.toNat_natCast, hl]
  exact Nat.le_refl _
theorem walk_s {A y : B} {ks : List Int} {i j : Nat} (e : A = tailB y (ks.drop i)) (hi : j = i) : A = tailB y (ks.drop j) := hi ▸ e
/-- the ends of an if's ways, joined: two ints and two names more -/
def JoinP (s : Shared) (g : Heap) (L : Addr) (news : Led) (a b c d : Str) (u v : Value) (P : Int → Int → Prop) (f : Flow) (s' : Shared) : Prop :=
  f = .next ∧ ∃ (h' : Heap) (tk' : Nat) (x y : Int) (t1 t2 : Tok) (m' : Str → Option Value), s' = { s with heap := h', toks := tk' } ∧ Fr g L h' (fun n => if n = b then some (.int y t2) else if n = a then some (.int x t1) else if n = c then some u else if n = d then some v else m' n) ∧ News g L h' news ∧ P x y
theorem Fr_seen {h₀ h : Heap} {L : Addr} {m : Str → Option Value} (F : Fr h₀ L h m) (a : Str) {v : Value} (e : m a = some v) : Fr h₀ L h (fun y => if y = a then some v else m y) := by
  have em : (fun y => if y = a then some v else m y) = m := by
    funext y
    by_cases hy : y = a
    · rw [if_pos hy, hy, e]
    · rw [if_neg hy]
  rw [em]; exact F
theorem JoinP.mk {s s' : Shared} {g h' : Heap} {L : Addr} {news news' : Led} {a b c d : Str} {u v : Value} {P : Int → Int → Prop} {tk' : Nat} {x y : Int} {t1 t2 : Tok} {m : Str → Option Value} (e : s' = { s with heap := h', toks := tk' }) (F : Fr g L h' m) (N : News g L h' news') (hs : ∀ p ∈ news, p ∈ news')
    (eb : m b = some (.int y t2)) (ea : m a = some (.int x t1)) (ec : m c = some u) (ed : m d = some v) (p : P x y) (ab : a ≠ b) (ac : c ≠ a) (bc : c ≠ b) (ad : d ≠ a) (bd : d ≠ b) (cd : d ≠ c) : JoinP s g L news a b c d u v P .next s' := by
  refine ⟨rfl, h', tk', x, y, t1, t2, m, e, Fr_seen (Fr_seen (Fr_seen (Fr_seen F d ed) c ?_) a ?_) b ?_, news_sub N hs, p⟩
  · rw [if_neg (Ne.symm cd)]; exact ec
  · rw [if_neg (Ne.symm ac), if_neg (Ne.symm ad)]; exact ea
  · rw [if_neg (Ne.symm ab), if_neg (Ne.symm bc), if_neg (Ne.symm bd)]; exact eb
theorem joinIf {prog : Program} {w : World} {A : Around} {E : Value → Shared → Prop} {s : Shared} {env : Env} {g : Heap} {L : Addr} {m : Str → Option Value} {news : Led} {test : Expr} {body orelse : List Stmt} {pos : Pos} {Q : Flow → Shared → Prop} (F : Fr g L s.heap m) (N : News g L s.heap news) (P : Int → Int → Prop) (a b : Str) {c d : Str} {u v : Value} (_hc : m c = some u) (_hd : m d = some v)
    (h : wpAny (model prog w) A (isTrue test env (eval test env)) (fun r s₂ => if r then wpAny (model prog w) A (execs body env) (JoinP s g L news a b c d u v P) E s₂ else wpAny (model prog w) A (execs orelse env) (JoinP s g L news a b c d u v P) E s₂) E s)
    (k : ∀ h' tk' x y t1 t2 (m' : Str → Option Value), Fr g L h' (fun n => if n = b then some (.int y t2) else if n = a then some (.int x t1) else if n = c then some u else if n = d then some v else m' n) → News g L h' news → P x y → Q .next { s with heap := h', toks := tk' }) :
    wpAny (model prog w) A (exec (.If test body orelse pos) env) Q E s := by
  have fin : ∀ f s', JoinP s g L news a b c d u v P f s' → Q f s' := by
    rintro f s' ⟨rfl, h', tk', x, y, t1, t2, m', rfl, F', N', p⟩
    exact k h' tk' x y t1 t2 m' F' N' p
  refine wpAny_If (wpAny_mono h (fun r s₂ q => ?_) fun _ _ e => e)
  cases r
  · exact wpAny_mono q fin fun _ _ e => e
  · exact wpAny_mono q fin fun _ _ e => e
theorem c_value (w : World) mean mg mb (x dx ln kp : Addr) (g1 g2 g3 g4 : Int) (k1 k2 k3 k4 t1 t4 : Tok) (sd : B) (n : Int) (b : Array UInt8) (hn : n = (b.size : Int)) (hb : b.size < 32) (hx : x ≠ dx) (hxk : x ≠ kp) (hdk : dx ≠ kp) :
    HCtr w mean mg mb 3 71 [.ref x] [(x, instObj 74 dx), (dx, dictOf [⟨g1, .str (Str.ofString "seed") k1, .int (I sd) t1⟩, ⟨g2, .str (Str.ofString "lanes") k2, .ref ln⟩, ⟨g3, .str (Str.ofString "kept") k3, .ref kp⟩, ⟨g4, .str (Str.ofString "count") k4, .int n t4⟩] 4), (kp, baOf b)]
      (fun r news' => news' = [(x, instObj 74 dx), (dx, dictOf [⟨g1, .str (Str.ofString "seed") k1, .int (I sd) t1⟩, ⟨g2, .str (Str.ofString "lanes") k2, .ref ln⟩, ⟨g3, .str (Str.ofString "kept") k3, .ref kp⟩, ⟨g4, .str (Str.ofString "count") k4, .int n t4⟩] 4), (kp, baOf b)] ∧ ∃ t, r = .int (I (hashB sd (KBw.bInts b))) t) := by
  have hlen := KBw.ints_length b
  subst hn
  walk_at "my enter"
  k_with "exec While Compare cons nil" => (k_while (fun (script : List Int) (found begin : Int) => 0 ≤ begin ∧ begin ≤ b.size ∧ ∃ y : B, found = I y ∧ absorb (sd + FIVE + BitVec.ofInt 64 (b.size : Int)) (KBw.bInts b) = absorb y ((KBw.bInts b).drop begin.toNat)) (fun script found begin => b.size - begin.toNat) "found" "begin"; obtain ⟨y, hy, hq⟩ := ‹∃ y : B, _ ∧ _›; subst hy)
  k_with "measure" => exact meas8 (by assumption) (by assumption)
  k_with "state" => first | exact ⟨Int.le_refl 0, Int.natCast_nonneg _, _, (by walk_at "my bv"), rfl⟩ | exact ⟨by omega, by omega, _, (by walk_at "my bv"), walk_8 (by assumption) (by omega) (by assumption)⟩ | exact ⟨_, rfl, walk_s (by assumption) (congrArg Int.toNat (Int.add_zero _))⟩ | exact ⟨_, (by walk_at "my bv"), walk_1k (by assumption) (by assumption) (by assumption) (by rw [List.length_append, List.length_singleton]) hlen (by assumption)⟩
  have hJoinV : True := trivial
  k_with "exec If" => (clear hJoinV; refine stop ?_)
  k_with "my join" => first | exact ⟨by omega, by omega, _, (by walk_at "my bv"), walk_4 (by assumption) (by omega) (by omega) (by assumption)⟩ | exact ⟨by omega, by omega, _, rfl, walk_0 (by assumption) (by omega) (by assumption)⟩
  k_steps
  dsimp only [List.cons_append, List.nil_append]
  k_here
  refine' h_callS (c_whole w _ _ _ x dx ln kp g1 g2 g3 g4 k1 k2 k3 k4 t1 t4 sd (b.size : Int) ?hn ?hx) ?cB ?cF ?cX ?cN ?cT ?hS ?ch ?cA ?cf ?ck ?cd ?cu ?_
  walk_at "my sides"
  case hS => walk_at "my sels"
  case hn => omega
  case hx => assumption
  walk_at "my same"
  k_with "call ref" => (k_here; k_dflt (first
   | (refine' h_callS (c_low_first w _ _ _ kp b _ _ 8 _ _ ?h0 ?h1 ?h2 ?hcn ?hn) ?cB ?cF ?cX ?cN ?cT ?hS ?ch ?cA ?cf ?ck ?cd ?cu ?_; (case hcn => exact rfl); walk_at "my sides"; (case hS => walk_at "my sels"); (case h0 => omega); (case h1 => omega); (case h2 => omega); (case hn => decide); walk_at "my same")
   | (refine' h_callS (c_low_first w _ _ _ kp b _ _ 4 _ _ ?h0 ?h1 ?h2 ?hcn ?hn) ?cB ?cF ?cX ?cN ?cT ?hS ?ch ?cA ?cf ?ck ?cd ?cu ?_; (case hcn => exact rfl); walk_at "my sides"; (case hS => walk_at "my sels"); (case h0 => omega); (case h1 => omega); (case h2 => omega); (case hn => decide); walk_at "my same")))
  k_with "pyIter ref" => ((k_state_given ["begin"] (fun (bg : Int) (pre : List Int) (found : Int) => ∃ y : B, found = I y ∧ absorb (sd + FIVE + BitVec.ofInt 64 (b.size : Int)) (KBw.bInts b) = tailB y ((KBw.bInts b).drop (bg + (pre.length : Int)).toNat)) "found") <;> (obtain ⟨y, hy, hq⟩ := ‹∃ y : B, _ ∧ _›; subst hy))
  k_steps
  unfold Stop
  rename Fr _ _ _ _ => Fj
  rename News _ _ _ _ => Nj
  refine' joinIf Fj Nj (fun (xx yy : Int) => 0 ≤ yy ∧ yy ≤ b.size ∧ ∃ y : B, xx = I y ∧ absorb (sd + FIVE + BitVec.ofInt 64 (b.size : Int)) (KBw.bInts b) = tailB y ((KBw.bInts b).drop yy.toNat)) (Str.ofString "found") (Str.ofString "begin") (c := Str.ofString "end") (d := Str.ofString "self") ?jhc ?jhd ?jw1 ?jw2
  case jhc => with_unfolding_all rfl
  case jhd => with_unfolding_all rfl
  case jw1 =>
    (try dsimp only)
    k_steps
    all_goals (try (walk_at "call ref"; k_steps))
    all_goals
      refine' JoinP.mk ?je ?jF ?jN ?js ?jeb ?jea ?jec ?jed ?jp ?jab ?jac ?jbc ?jad ?jbd ?jcd
      case je => with_reducible rfl
      case jF => k_asm
      case jN => k_asm
      case js => walk_at "my sub"
      case jeb => with_unfolding_all rfl
      case jea => with_unfolding_all rfl
      case jec => with_unfolding_all rfl
      case jed => with_unfolding_all rfl
      case jp => walk_at "my join"
      case jab => decide
      case jac => decide
      case jbc => decide
      case jad => decide
      case jbd => decide
      case jcd => decide
  case jw2 =>
    intro hw3 tkw3 xw3 yw3 t1w3 t2w3 mw3 Fw3 Nw3 pw3
    obtain ⟨pw0, pw1, y, hy, hq⟩ := pw3
    subst hy
    (try dsimp only)
    clear Fj Nj
    k_steps
    walk_at "my done"
    refine Done.intro [(x, instObj 74 dx), (dx, dictOf [⟨g1, .str (Str.ofString "seed") k1, .int (I sd) t1⟩, ⟨g2, .str (Str.ofString "lanes") k2, .ref ln⟩, ⟨g3, .str (Str.ofString "kept") k3, .ref kp⟩, ⟨g4, .str (Str.ofString "count") k4, .int (b.size : Int) t4⟩] 4), (kp, baOf b)] (by k_asm) (news_sub (by assumption) ?hsub) ⟨rfl, _, congrArg (fun z => Value.int z _) ?hfin⟩
    case hsub => walk_at "my sub"
    case hfin =>
      have e := walk_end' ‹absorb _ _ = tailB _ _› (by simp only [rangeKs_length]; exact end_i pw1 hlen)
      rw [show hashB sd (KBw.bInts b) = finB y by rw [hashB, hlen, e]]
      walk_at "my bv"
end
section
theorem c_init (w : World) mean mg mb (x dx : Addr) (sd : B) (v : Int) (t1 : Tok) (hv : v = I sd) (hx : x ≠ dx) :
    HCtrC w mean mg mb 2 43 [.ref x, .int v t1] [(x, instObj 74 dx), (dx, dictOf [] 0)]
      (fun r news' => r = .none ∧ ∃ (ln kp : Addr) (g1 g2 g3 g4 : Int) (k1 k2 k3 k4 t1 t4 : Tok), x ≠ kp ∧ dx ≠ kp ∧
        news' = [(x, instObj 74 dx), (dx, dictOf [⟨g1, .str (Str.ofString "seed") k1, .int (I sd) t1⟩, ⟨g2, .str (Str.ofString "lanes") k2, .ref ln⟩, ⟨g3, .str (Str.ofString "kept") k3, .ref kp⟩, ⟨g4, .str (Str.ofString "count") k4, .int 0 t4⟩] 4), (kp, baOf #[])]) := by
  subst hv
  have h0 := I_nn sd
  have h1 := I_lt sd
  walk_at "my enterC"
  refine cl_execs ?_
  k_steps
  all_goals (try exact trivial)
  refine cl_execs ?_
  k_steps
  all_goals (try exact trivial)
  refine cl_execs ?_
  k_steps
  all_goals (try exact trivial)
  refine cl_execsC ?_
  refine cl_Assign1 ?_
  refine cl_evalCall ?_
  k_steps
  refine cl_args0 (P := fun _ => True) trivial machine_type ?_
  refine cl_new_baK (by k_asm) (by k_asm) ?_
  intro kp h2 F2 N2 l2
  k_lt l2
  dsimp only
  k_steps
  all_goals (try exact trivial)
  refine cl_execs ?_
  k_steps
  all_goals (try exact trivial)
  refine cl_execs_nil ?_
  dsimp only
  rename News _ _ _ _ => nE
  rw [show Builtin.bitAnd (I sd) 18446744073709551615 = I sd by rw [mask_I, ofInt_I]] at nE
  exact Done.intro _ (by k_asm) (news_sub nE (by walk_at "my sub")) ⟨rfl, _, kp, _, _, _, _, _, _, _, _, _, _, (by walk_at "my ne"), (by walk_at "my ne"), rfl⟩
end
section
theorem under_frames (A : Around) (C : Addr) (vals : List Value) : (A.under (.builtin "type.__call__" ⟨.ref C :: vals, []⟩)).frames = A.frames := by
  first | rfl | (simp [Around.under, pushEnvs]; rfl) | (unfold Around.under; cases A; rename_i fr gs _; cases fr <;> rfl)
theorem under_handled (A : Around) (C : Addr) (vals : List Value) : (A.under (.builtin "type.__call__" ⟨.ref C :: vals, []⟩)).handled = A.handled := rfl
theorem under_units (A : Around) (C : Addr) (vals : List Value) : (A.under (.builtin "type.__call__" ⟨.ref C :: vals, []⟩)).units ≤ A.units + 8 := by
  show A.units + _ ≤ _
  refine Nat.add_le_add_left ?_ _
  first | exact (by decide : (1 : Nat) ≤ 8) | exact (by decide : (2 : Nat) ≤ 8) | exact (by decide : (3 : Nat) ≤ 8) | exact (by decide : (0 : Nat) ≤ 8) | exact (by decide : (4 : Nat) ≤ 8)
theorem apart_news {x dx kp : Addr} {l : Led} {o1 o2 o3 : Obj} (h : ∀ p ∈ [(x, o1), (dx, o2), (kp, o3)], ∀ q ∈ l, p.1 ≠ q.1) : (∀ q ∈ l, x ≠ q.1) ∧ (∀ q ∈ l, dx ≠ q.1) ∧ (∀ q ∈ l, kp ≠ q.1) :=
  ⟨fun q hq => h (x, o1) (.head _) q hq, fun q hq => h (dx, o2) (.tail _ (.head _)) q hq, fun q hq => h (kp, o3) (.tail _ (.tail _ (.head _))) q hq⟩
theorem cl_hasher (w : World) {mean mg mb} (sd : B) (v : Int) (t1 : Tok) (hv : v = I sd) {A A₀ : Around} {env : Env} {outer : List Env} {base h₀ : Heap} {L : Addr} {m : Str → Option Value} {s : Shared} {news : Led} {Q E : Value → Shared → Prop}
    (B : Below A₀ base outer h₀) (F : Fr h₀ L s.heap m) (X : (Mine.hd.heap_39 w.params).In h₀) (N : News h₀ L s.heap news) (T : TopM mean mg mb h₀)
    (hh : A.handled = none) (hA : A.frames = some (env :: outer)) (hf : env.frame = some L) (hke : env.scope.kind = .function) (hd : A.depth + 3 < recursionLimit) (hu : A.units + 24 < cLine)
    (ret : ∀ (x dx ln kp : Addr) (g1 g2 g3 g4 : Int) (k1 k2 k3 k4 t1 t4 : Tok) h' tk', Fr h₀ L h' m →
      News h₀ L h' ((x, instObj 74 dx) :: (dx, dictOf [⟨g1, .str (Str.ofString "seed") k1, .int (I sd) t1⟩, ⟨g2, .str (Str.ofString "lanes") k2, .ref ln⟩, ⟨g3, .str (Str.ofString "kept") k3, .ref kp⟩, ⟨g4, .str (Str.ofString "count") k4, .int 0 t4⟩] 4) :: (kp, baOf #[]) :: news) →
      x ≠ dx → x ≠ kp → dx ≠ kp → (∀ q ∈ news, x ≠ q.1) → (∀ q ∈ news, dx ≠ q.1) → (∀ q ∈ news, kp ≠ q.1) → Q (.ref x) { s with heap := h', toks := tk' }) :
    wpCl (MM w) A (call (.ref 74) [.int v t1]) Q E s := by
  refine cl_makeK (K := Mine.hd.heap_39 w.params) (fI := 43) F N X (by k_dflt k_is) (by k_dflt k_is) (by k_dflt k_is) fun x dx h1 F1 N1 l1 l2 => ?_
  have hxd : x ≠ dx := Nat.ne_of_gt l2
  have hS : Sels [(x, instObj 74 dx), (dx, dictOf [] 0)] ((x, instObj 74 dx) :: (dx, dictOf [] 0) :: news) news := by
    refine Sels.cons (Sel.head fun p hp => ?_) (Sels.cons (Sel.head fun p hp => Nat.ne_of_lt (l1 p hp)) Sels.nil)
    rcases List.mem_cons.mp hp with rfl | hp
    · exact Nat.ne_of_lt l2
    · exact Nat.ne_of_lt (Nat.lt_trans (l1 p hp) l2)
  refine h_codeC (c_init w mean mg mb x dx sd v t1 hv hxd) B F1 X N1 T hS (by rw [under_handled]; exact hh) (by rw [under_frames]; exact hA) hf hke (by rw [depth_under_make]; omega) (by have := under_units A 74 [.int v t1]; omega) ?_
  intro r n' h' tk' F' N' cr hp
  obtain ⟨rfl, ln, kp, g1, g2, g3, g4, k1, k2, k3, k4, t1, t4, h1, h2, rfl⟩ := hp
  obtain ⟨c1, c2, c3⟩ := apart_news cr
  exact ⟨rfl, ret x dx ln kp g1 g2 g3 g4 k1 k2 k3 k4 t1 t4 h' tk' F' N' hxd h1 h2 c1 c2 c3⟩
end
section
theorem c_feed (w : World) mean mg mb (x dx ln kp : Addr) (g1 g2 g3 g4 : Int) (k1 k2 k3 k4 t1 t4 t5 : Tok) (sd : B) (n : Int) (b o : Array UInt8) (hn : n = (b.size : Int)) (hb : b.size + o.size < 32) (hx : x ≠ dx) (hxk : x ≠ kp) (hdk : dx ≠ kp) :
    HCtrC w mean mg mb 2 50 [.ref x, .bytes o t5] [(x, instObj 74 dx), (dx, dictOf [⟨g1, .str (Str.ofString "seed") k1, .int (I sd) t1⟩, ⟨g2, .str (Str.ofString "lanes") k2, .ref ln⟩, ⟨g3, .str (Str.ofString "kept") k3, .ref kp⟩, ⟨g4, .str (Str.ofString "count") k4, .int n t4⟩] 4), (kp, baOf b)]
      (fun r news' => r = .none ∧ ∃ (kp' : Addr) (t4' : Tok), x ≠ kp' ∧ dx ≠ kp' ∧
        news' = [(x, instObj 74 dx), (dx, dictOf [⟨g1, .str (Str.ofString "seed") k1, .int (I sd) t1⟩, ⟨g2, .str (Str.ofString "lanes") k2, .ref ln⟩, ⟨g3, .str (Str.ofString "kept") k3, .ref kp'⟩, ⟨g4, .str (Str.ofString "count") k4, .int ((b ++ o).size : Int) t4'⟩] 4), (kp', baOf (b ++ o))]) := by
  subst hn
  have hsz : (b ++ o).size = b.size + o.size := Array.size_append
  have e1 : ¬ @Eq Nat x dx := hx
  have e2 : ¬ @Eq Nat x kp := hxk
  have e3 : ¬ @Eq Nat dx kp := hdk
  walk_at "my enterC"
  refine cl_execs ?_
  k_steps
  all_goals (try exact trivial)
  refine cl_execsC ?_
  refine cl_Expr ?_
  refine cl_evalMeth ?_
  k_steps
  refine method_extend (by assumption) (by k_mem) ?_
  dsimp only
  refine cl_args (P := fun _ => True) machine_builtin ?_
  k_steps
  all_goals (try exact trivial)
  refine' cl_extendK ?xF ?xN ?xS ?xz ?_
  case xF => k_asm
  case xN => k_asm
  case xS => walk_at "my sel"
  case xz => omega
  intro h' F' N'
  refine ⟨rfl, ?_⟩
  dsimp only
  refine cl_execs ?_
  k_steps
  all_goals (try exact trivial)
  refine cl_execs ?_
  k_steps
  all_goals (try exact trivial)
  rw [show decide (32 ≤ ((b ++ o).size : Int) - 0) = false from decide_eq_false (by omega)]
  unfold WhlIf
  rw [if_neg Bool.false_ne_true]
  k_steps
  all_goals (try exact trivial)
  refine cl_execs ?_
  k_steps
  all_goals (try exact trivial)
  k_here
  with_reducible rename Fr _ _ _ _ => Fz
  with_reducible rename News _ _ _ _ => Nz
  refine' slice_baK (s := ⟨_, _, _, _, _⟩) Fz Nz ?xm (by constructor) (by constructor) ?xz ?_
  case xm => k_mem
  case xz => omega
  rw [picked_0]
  intro h2 kp2 F2 N2 l2
  k_lt l2
  dsimp only
  k_steps
  all_goals (try exact trivial)
  refine cl_execs_nil ?_
  dsimp only
  rename News _ _ _ _ => nE
  rw [show ((b.size : Int) + (o.size : Int)) = ((b ++ o).size : Int) by rw [hsz]; exact (Int.natCast_add _ _).symm] at nE
  exact Done.intro _ (by k_asm) (news_sub nE (by walk_at "my sub")) ⟨rfl, kp2, _, (by walk_at "my ne"), (by walk_at "my ne"), rfl⟩
end
section
theorem c_xxh64 (w : World) mean mg mb (sd : B) (v : Int) (t1 t2 : Tok) (o : Array UInt8) (hv : v = I sd) (hb : o.size < 32) :
    HCtrC w mean mg mb 4 86 [.bytes o t2, .int v t1] [] (fun r news' => news' = [] ∧ ∃ t, r = .int (I (hashB sd (KBw.bInts o))) t) := by
  subst hv
  have h0 := I_nn sd
  have h1 := I_lt sd
  walk_at "my enterC"
  refine cl_execsC ?_
  refine cl_Assign1 ?_
  refine cl_evalCall ?_
  k_steps
  refine cl_args (P := (Mine.hd.heap_39 w.params).In) (keeps_K (by k_dflt k_is)) ?_
  k_steps
  refine' cl_hasher w sd _ _ rfl ?cB ?cF ?cX ?cN ?cT ?ch ?cA ?cf ?ck ?cd ?cu ?_
  walk_at "my sides"
  intro x dx ln kp g1 g2 g3 g4 k1 k2 k3 k4 t1 t4 h' tk' F' N' hx hxk hdk _ _ _
  have e1 : ¬ @Eq Nat x dx := hx
  have e2 : ¬ @Eq Nat x kp := hxk
  have e3 : ¬ @Eq Nat dx kp := hdk
  dsimp only
  k_steps
  all_goals (try exact trivial)
  refine cl_execsC ?_
  refine cl_Expr ?_
  refine cl_evalMeth ?_
  k_steps
  dsimp only
  refine cl_args (P := (Mine.hd.heap_39 w.params).In) (keeps_K (by k_dflt k_is)) ?_
  k_steps
  refine' h_callC (c_feed w _ _ _ x dx ln kp g1 g2 g3 g4 k1 k2 k3 k4 t1 t4 _ sd 0 #[] o rfl ?zb hx hxk hdk) ?cB ?cF ?cX ?cN ?cT ?hS ?ch ?cA ?cf ?ck ?cd ?cu ?_
  walk_at "my sides"
  case zb => show 0 + o.size < 32; omega
  case hS => walk_at "my sels"
  intro r' n' h2 tk2 F2 N2 cr hp
  obtain ⟨rfl, kp2, t4', hx2, hd2, rfl⟩ := hp
  have e4 : ¬ @Eq Nat x kp2 := hx2
  have e5 : ¬ @Eq Nat dx kp2 := hd2
  clear cr
  rw [Array.empty_append] at N2
  try simp only [List.cons_append, List.nil_append] at N2
  refine ⟨rfl, ?_⟩
  dsimp only
  refine cl_any ?_
  k_steps
  dsimp only [List.cons_append, List.nil_append]
  k_here
  refine' h_call (c_value w _ _ _ x dx ln kp2 g1 g2 g3 g4 k1 k2 k3 k4 t1 t4' sd (o.size : Int) o rfl hb hx hx2 hd2) ?cB ?cF ?cX ?cN ?cT ?hS ?ch ?cA ?cf ?ck ?cd ?cu ?_
  walk_at "my sides"
  case hS => walk_at "my sels"
  intro r3 n3 h3 tk3 F3 N3 cr hp
  obtain ⟨rfl, t3, rfl⟩ := hp
  clear cr
  dsimp only
  k_steps
  exact Done.intro [] (by k_asm) News.nil ⟨rfl, _, rfl⟩
end
section
theorem c_lawwhole (w : World) mean mg mb : HCtr w mean mg mb 1 93 [] [] (fun r news' => news' = [] ∧ ∃ t, r = .int 18446744073709551616 t) := by
  walk_at "my enter"
  k_steps
  walk_at "my done"
  exact Done.intro [] (by k_asm) (by k_asm) ⟨rfl, _, rfl⟩
theorem c_lawturned (w : World) mean mg mb (v c : Int) (x : B) (n : Nat) (t1 t2 : Tok) (hv : v = I x) (hc : c = (n : Int)) (hn : n ≤ 64) :
    HCtr w mean mg mb 2 127 [.int v t1, .int c t2] [] (fun r news' => news' = [] ∧ ∃ t, r = .int (I (rotl x n)) t) := by
  subst hv hc
  have h0 := I_nn x
  have h1 := I_lt x
  walk_at "my enter"
  k_steps
  refine Done.intro [] (by k_asm) (by k_asm) ⟨rfl, _, congrArg (fun z => Value.int z _) ?_⟩
  rw [fmod_I, Int.toNat_natCast, show (64 - (n : Int)).toNat = 64 - n by omega]
  exact lawTurn_I x n (64 - n) (by omega)
theorem back_step' {p y : B} {n k : Nat} (h : y = backN p n) (hk : k = n + 1) : ∃ z : B, (I y * (2 - I p * I y)).fmod 18446744073709551616 = I z ∧ z = backN p k := ⟨_, back_step p n _ (by rw [h]), by rw [hk]⟩
theorem c_lawback (w : World) mean mg mb (v : Int) (p : B) (t1 : Tok) (hv : v = I p) :
    HCtr w mean mg mb 2 120 [.int v t1] [] (fun r news' => news' = [] ∧ ∃ t, r = .int (I (backB p)) t) := by
  subst hv
  have h0 := I_nn p
  have h1 := I_lt p
  walk_at "my enter"
  k_with "pyIter ref" => k_dflt ((k_state_short (fun (pre : List Int) (found : Int) => ∃ y : B, found = I y ∧ y = backN p pre.length) "found") <;> (obtain ⟨y, hy, hq⟩ := ‹∃ y : B, _ ∧ _›; subst hy))
  k_with "state" => first | exact ⟨_, rfl, rfl⟩ | exact back_step' (by assumption) (by rw [List.length_append, List.length_singleton])
  k_steps
  walk_at "my done"
  refine Done.intro [] (by k_asm) (by k_asm) ⟨rfl, _, congrArg (fun z => Value.int z _) ?_⟩
  rw [hq]
  rfl
end
section
theorem c_lawlast (w : World) mean mg mb (v : Int) (f : B) (t1 : Tok) (hv : v = I f) :
    HCtr w mean mg mb 3 153 [.int v t1] [] (fun r news' => news' = [] ∧ ∃ t, r = .int (I (lastB f)) t) := by
  subst hv
  have h0 := I_nn f
  have h1 := I_lt f
  walk_at "my enter"
  k_steps
  walk_at "my done"
  refine Done.intro [] (by k_asm) (by k_asm) ⟨rfl, _, congrArg (fun z => Value.int z _) ?_⟩
  walk_at "my bv"
end
section
set_option maxHeartbeats 1000000 in
theorem c_lawlow (w : World) mean mg mb (b : Array UInt8) (t1 : Tok) (hb : b.size ≤ 1000) :
    HCtr w mean mg mb 1 132 [.bytes b t1] [] (fun r news' => news' = [] ∧ ∃ t, r = .int (low (KBw.bInts b)) t) := by
  have hlen := KBw.ints_length b
  walk_at "my enter"
  walk1
  (try dsimp only)
  walk1
  (try dsimp only)
  walk1
  (try dsimp only)
  walk1
  (try dsimp only)
  walk1
  (try dsimp only)
  walk1
  (try dsimp only)
  walk1
  (try dsimp only)
  k_here
  refine' comp_pairs ?z1 ?z2 ?z3 ?z4 ?z5 ?z6 ?z7 ?z8 ?_
  case z1 => rfl
  case z2 => decide
  case z3 => rfl
  case z4 => decide
  case z5 => rfl
  case z6 => rfl
  case z7 => decide
  case z8 => rfl
  walk1
  (try dsimp only)
  walk1
  (try dsimp only)
  walk1
  (try dsimp only)
  walk1
  (try dsimp only)
  walk1
  (try dsimp only)
  walk1
  (try dsimp only)
  k_here
  refine enum_source rfl ?_
  intro e it h' hne he1 hi1 hz he hit hk W
  have hpairs : ∀ (i : Nat) (v0 v1 : Value), (∃ t x, (∃ c u, b[i]? = some c ∧ x = Value.int (c.toNat : Int) u) ∧ (#[v0, v1] : Array Value) = #[.int i t, x]) → ∃ t u, v0 = .int (i : Int) t ∧ v1 = .int ((KBw.bInts b).getD i 0) u ∧ 0 ≤ (KBw.bInts b).getD i 0 ∧ (KBw.bInts b).getD i 0 < 256 := by
    rintro i v0 v1 ⟨t, x, ⟨c, u, hc, rfl⟩, e⟩
    simp only [Array.mk.injEq, List.cons.injEq, and_true] at e
    obtain ⟨rfl, rfl⟩ := e
    rw [← ints_getD hc]
    have := c.toNat_lt
    exact ⟨t, u, rfl, rfl, by omega, by omega⟩
  refine ⟨e, _, _, _, _, _, _, fun i y => ∃ t, y = Value.int ((KBw.bInts b).getD i 0 * 256 ^ i) t, rfl, W, ?_, ⟨⟨_, by simpa using he⟩, hit⟩, ?_, ?_, ?_, ?_⟩
  · rw [sizeLine_eq]; omega
  · intro a ha
    show a < h'.objs.size
    rw [hz]
    rcases List.mem_cons.mp ha with rfl | ha
    · rw [he1]; exact Nat.lt_succ_self _
    · rw [List.mem_singleton.mp ha, hi1]; exact Nat.lt_succ_of_lt (Nat.lt_succ_self _)
  · rintro i vals ⟨t, x, _, rfl⟩
    exact ⟨_, _, rfl⟩
  · intro i v0 v1 C h tk1 m2 Q' E' hi hP hn e0 e1 hk1 hq
    obtain ⟨t, u, rfl, rfl, c0, c1⟩ := hpairs i v0 v1 hP
    refine elt_low rfl rfl rfl hn e0 e1 (by omega) c0 c1 rfl rfl fun tk2 t2 => ?_
    exact hq _ h _ ⟨_, rfl⟩ fun _ _ e => e
  intro D h2 tk2 ys hD0 hDl hyl hY hk2
  rename Fr _ _ _ _ => Fz
  have F2 := Fz.keeps fun a o q => hk2 a o (fun hm => by
    have q' := Heap.lt_size q
    rcases List.mem_cons.mp hm with r | hm
    · rw [r, he1] at q'; exact Nat.lt_irrefl _ (Nat.lt_of_succ_lt q')
    · rw [List.mem_singleton.mp hm, hi1] at q'; exact Nat.lt_irrefl _ q') (hk a o q)
  walk1
  (try dsimp only)
  refine sum_low rfl hDl (by omega) (fun j y hj => hY j y hj) ?_
  intro h3 tk3 t3 hk4
  have F3 := F2.keeps hk4
  (try dsimp only)
  k_steps
  walk_at "my done"
  exact Done.intro [] F3 News.nil ⟨rfl, _, rfl⟩
end
section
set_option maxHeartbeats 1000000 in
theorem c_laweight (w : World) mean mg mb (b : Array UInt8) (t1 : Tok) (hb : b.size ≤ 1000) :
    HCtr w mean mg mb 3 139 [.bytes b t1] [] (fun r news' => news' = [] ∧ ∃ t, r = .int (I (mixB (BitVec.ofInt 64 (low (KBw.bInts b))))) t) := by
  walk_at "my enter"
  k_steps
  walk_at "my done"
  refine Done.intro [] (by k_asm) (by k_asm) ⟨rfl, _, congrArg (fun z => Value.int z _) ?_⟩
  walk_at "my bv"
set_option maxHeartbeats 1000000 in
theorem c_lawbegun (w : World) mean mg mb (sd : B) (v m : Int) (b : Array UInt8) (t1 t2 t3 : Tok) (hv : v = I sd) (hb : b.size = 0 ∨ b.size = 8) :
    HCtr w mean mg mb 4 146 [.int v t1, .bytes b t2, .int m t3] [] (fun r news' => news' = [] ∧ ∃ t, r = .int (I (begunB sd (KBw.bInts b) m)) t) := by
  subst hv
  have h0 := I_nn sd
  have h1 := I_lt sd
  have hlen := KBw.ints_length b
  walk_at "my enter"
  k_steps
  · walk_at "my done"
    refine Done.intro [] (by k_asm) (by k_asm) ⟨rfl, _, congrArg (fun z => Value.int z _) ?_⟩
    rw [show begunB sd (KBw.bInts b) m = r8 (sd + FIVE + BitVec.ofInt 64 m) (BitVec.ofInt 64 (low (KBw.bInts b))) by
      rw [begunB, if_pos]
      rcases hb with hb | hb
      · simp_all [KBw.bInts]
      · rw [hlen, hb]]
    walk_at "my bv"
  · walk_at "my done"
    refine Done.intro [] (by k_asm) (by k_asm) ⟨rfl, _, congrArg (fun z => Value.int z _) ?_⟩
    rw [show begunB sd (KBw.bInts b) m = sd + FIVE + BitVec.ofInt 64 m by
      rw [begunB, if_neg]
      rcases hb with hb | hb
      · rw [hlen, hb]; decide
      · simp_all [KBw.bInts]]
    walk_at "my bv"
end
section
/-- the ends of a statement's ways, joined: one int and two values -/
def Join1 (s : Shared) (g : Heap) (L : Addr) (news : Led) (a c d : Str) (u v : Value) (P : Int → Prop) (f : Flow) (s' : Shared) : Prop :=
  f = .next ∧ ∃ (h' : Heap) (tk' : Nat) (x : Int) (t1 : Tok) (m' : Str → Option Value), s' = { s with heap := h', toks := tk' } ∧ Fr g L h' (fun n => if n = a then some (.int x t1) else if n = c then some u else if n = d then some v else m' n) ∧ News g L h' news ∧ P x
theorem Join1.mk {s s' : Shared} {g h' : Heap} {L : Addr} {news news' : Led} {a c d : Str} {u v : Value} {P : Int → Prop} {tk' : Nat} {x : Int} {t1 : Tok} {m : Str → Option Value} (e : s' = { s with heap := h', toks := tk' }) (F : Fr g L h' m) (N : News g L h' news') (hs : ∀ p ∈ news, p ∈ news')
    (ea : m a = some (.int x t1)) (ec : m c = some u) (ed : m d = some v) (p : P x) (ac : c ≠ a) (ad : d ≠ a) (cd : d ≠ c) : Join1 s g L news a c d u v P .next s' := by
  refine ⟨rfl, h', tk', x, t1, m, e, Fr_seen (Fr_seen (Fr_seen F d ed) c ?_) a ?_, news_sub N hs, p⟩
  · rw [if_neg (Ne.symm cd)]; exact ec
  · rw [if_neg (Ne.symm ac), if_neg (Ne.symm ad)]; exact ea
theorem joinX {M : Model} {A : Around} {E : Value → Shared → Prop} {s : Shared} {t : Sem Flow} {g : Heap} {L : Addr} {m : Str → Option Value} {news : Led} {Q : Flow → Shared → Prop} (_F : Fr g L s.heap m) (_N : News g L s.heap news) (P : Int → Prop) (a : Str) {c d : Str} {u v : Value} (_hc : m c = some u) (_hd : m d = some v)
    (h : wpAny M A t (Join1 s g L news a c d u v P) E s)
    (k : ∀ h' tk' x t1 (m' : Str → Option Value), Fr g L h' (fun n => if n = a then some (.int x t1) else if n = c then some u else if n = d then some v else m' n) → News g L h' news → P x → Q .next { s with heap := h', toks := tk' }) :
    wpAny M A t Q E s := by
  refine wpAny_mono h (fun f s' q => ?_) fun _ _ e => e
  obtain ⟨rfl, h', tk', x, t1, m', rfl, F', N', p⟩ := q
  exact k h' tk' x t1 m' F' N' p
set_option maxHeartbeats 1000000 in
theorem c_lawtail (w : World) mean mg mb (v : Int) (y0 : B) (b : Array UInt8) (t1 t2 : Tok) (hv : v = I y0) (hb : b.size ≤ 100) :
    HCtr w mean mg mb 3 160 [.int v t1, .bytes b t2] [] (fun r news' => news' = [] ∧ ∃ t, r = .int (I (tailU y0 (KBw.bInts b))) t) := by
  subst hv
  have h0 := I_nn y0
  have h1 := I_lt y0
  have hlen := KBw.ints_length b
  walk_at "my enter"
  k_with "pyIter bytes" => ((k_state (fun (pre : List Int) (state : Int) => ∃ y : B, state = I y ∧ y = pre.foldl u1 y0) "state") <;> (obtain ⟨y, hy, hq⟩ := ‹∃ y : B, _ ∧ _›; subst hy))
  k_with "state" => first | exact ⟨_, rfl, rfl⟩
  have hJoinV : True := trivial
  k_with "exec Assign" => (clear hJoinV; refine stop ?_)
  k_steps
  unfold Stop
  rename Fr _ _ _ _ => Fj
  rename News _ _ _ _ => Nj
  refine' joinX Fj Nj (fun x => (x = 4 ∧ 3 < b.size) ∨ (x = 0 ∧ b.size ≤ 3)) (Str.ofString "split") (c := Str.ofString "state") (d := Str.ofString "tail") ?jhc ?jhd ?jw1 ?jw2
  case jhc => with_unfolding_all rfl
  case jhd => with_unfolding_all rfl
  case jw1 =>
    (try dsimp only)
    k_steps
    all_goals
      refine' Join1.mk ?je ?jF ?jN ?js ?jea ?jec ?jed ?jp ?jac ?jad ?jcd
      case je => with_reducible rfl
      case jF => k_asm
      case jN => k_asm
      case js => walk_at "my sub"
      case jea => with_unfolding_all rfl
      case jec => with_unfolding_all rfl
      case jed => with_unfolding_all rfl
      case jp => first | exact .inl ⟨rfl, by omega⟩ | exact .inr ⟨rfl, by omega⟩
      case jac => decide
      case jad => decide
      case jcd => decide
  case jw2 =>
    intro hw3 tkw3 sp t1w3 mw3 Fw3 Nw3 pw3
    (try dsimp only)
    clear Fj Nj
    k_steps
    · rename News _ _ _ _ => nE'
      refine' kst_end ⟨_, _⟩ (by assumption) nE' ?zza0 ?zzb0 (by rfl) ?zzc0 ?zzd0 ?zze0 ?zzf0
      case zza0 => exact (by walk_at "my sub")
      case zzb0 => first | (intro p hp; kst_mem) | kst_anyIn
      case zzc0 => kst_facts
      case zzd0 => kst_all
      case zze0 => kst_same
      case zzf0 =>
        dsimp only
        refine ⟨u1 y kN, ?_, ?_⟩
        · walk_at "my bv"
        · rw [List.foldl_append, ← hq]; rfl
    · obtain ⟨e4, hb3⟩ : sp = 4 ∧ 3 < b.size := by omega
      subst e4
      walk_at "my done"
      refine Done.intro [] (by k_asm) News.nil ⟨rfl, _, congrArg (fun z => Value.int z _) ?_⟩
      rw [tailU_4 (by rw [hlen]; exact hb3), show (KBw.bInts (revB (KBy.picked b (some 4) none))).foldl u1 y0 = y from hq.symm]
      walk_at "my bv"
    · obtain ⟨e0, hb3⟩ : sp = 0 ∧ b.size ≤ 3 := by omega
      subst e0
      walk_at "my done"
      refine Done.intro [] (by k_asm) News.nil ⟨rfl, _, congrArg (fun z => Value.int z _) ?_⟩
      rw [tailU_0 (by rw [hlen]; omega), show (KBw.bInts (revB (KBy.picked b (some 0) none))).foldl u1 y0 = y from hq.symm]
end
section
set_option maxHeartbeats 2000000 in
theorem c_lawnumber (w : World) mean mg mb (v vs sz : Int) (f sd : B) (a b : Array UInt8) (t1 t2 t3 t4 t5 : Tok) (hv : v = I f) (hvs : vs = I sd) (ha : a.size = 0 ∨ a.size = 8) (hb : b.size ≤ 100) (hz : sz = 8 ∨ sz = 4 ∨ sz = 1) :
    HCtr w mean mg mb 5 167 [.int v t1, .int vs t2, .bytes a t3, .int sz t4, .bytes b t5] [] (fun r news' => news' = [] ∧ ∃ t, r = .int (I (numB f sd (KBw.bInts a) sz.toNat (KBw.bInts b))) t) := by
  subst hv hvs
  have h0 := I_nn f
  have h1 := I_lt f
  have hla := KBw.ints_length a
  have hlb := KBw.ints_length b
  walk_at "my enter"
  k_steps
  · (try walk_at "my done")
    refine Done.intro [] (by k_asm) News.nil ⟨rfl, _, congrArg (fun z => Value.int z _) ?_⟩
    have hs : sz = 8 := by first | assumption | omega | simp_all
    subst hs
    have e : numB f sd (KBw.bInts a) (Int.toNat 8) (KBw.bInts b) = rotl ((rotl ((tailU (lastB f) (KBw.bInts b) - FOUR) * backB ONE) 37 ^^^ begunB sd (KBw.bInts a) ((a.size : Int) + 8 + (b.size : Int))) * backB ONE) 33 * backB TWO := by
      rw [← hla, ← hlb]; rfl
    rw [e]
    walk_at "my bv"
  · (try walk_at "my done")
    refine Done.intro [] (by k_asm) News.nil ⟨rfl, _, congrArg (fun z => Value.int z _) ?_⟩
    have hs : sz = 4 := by first | assumption | omega | simp_all
    subst hs
    have e : numB f sd (KBw.bInts a) (Int.toNat 4) (KBw.bInts b) = (rotl ((tailU (lastB f) (KBw.bInts b) - THREE) * backB TWO) 41 ^^^ begunB sd (KBw.bInts a) ((a.size : Int) + 4 + (b.size : Int))) * backB ONE := by
      rw [← hla, ← hlb]; rfl
    rw [e]
    walk_at "my bv"
  · (try walk_at "my done")
    refine Done.intro [] (by k_asm) News.nil ⟨rfl, _, congrArg (fun z => Value.int z _) ?_⟩
    have hs : sz = 1 := by
      rcases hz with e | e | e
      · exact absurd e (by assumption)
      · exact absurd e (by assumption)
      · exact e
    subst hs
    have e : numB f sd (KBw.bInts a) (Int.toNat 1) (KBw.bInts b) = (rotl (tailU (lastB f) (KBw.bInts b) * backB ONE) 53 ^^^ begunB sd (KBw.bInts a) ((a.size : Int) + 1 + (b.size : Int))) * backB FIVE := by
      rw [← hla, ← hlb]; rfl
    rw [e]
    walk_at "my bv"
end
section
theorem log_64 {z : Int} (h0 : 0 < z) (h1 : z ≤ 2 ^ 64) : Nat.log2 z.natAbs < 9000 := by
  have : z.natAbs < 2 ^ 9000 := Nat.lt_of_lt_of_le (show z.natAbs < 2 ^ 65 by omega) (Nat.pow_le_pow_right (by decide) (by decide))
  exact (Nat.log2_lt (by omega)).mpr this
set_option maxHeartbeats 1000000 in
theorem c_digit (w : World) mean mg mb (p : Addr) (x many : Int) (n : Nat) (t1 t2 : Tok) (hx0 : 0 ≤ x) (hx1 : x < 2 ^ 420) (hm0 : 0 < many) (hm1 : many ≤ 2 ^ 64) :
    HCtr w mean mg mb 1 108 [.ref p, .int many t1] [(p, listOf #[.int x t2] n)]
      (fun r news' => ∃ d x' t t', 0 ≤ d ∧ d < many ∧ 0 ≤ x' ∧ x' < 2 ^ 420 ∧ r = .int d t ∧ news' = [(p, listOf #[.int x' t'] n)]) := by
  k_with "binaryOp FloorDiv int int" => (k_here; (with_reducible refine floordiv_int (by omega) ?_ (Or.inl (PyProof.noPylong_of_log2 (log_64 (by assumption) (by assumption))))))
  walk_at "my enter"
  k_steps
  walk_at "my done"
  have a1 : 0 ≤ x.fmod many := Int.fmod_nonneg_of_pos _ hm0
  have a2 : x.fmod many < many := Int.fmod_lt_of_pos _ hm0
  have a3 : 0 ≤ x.fdiv many := Int.fdiv_nonneg hx0 (by omega)
  have a4 : x.fdiv many < 2 ^ 420 := by
    rw [Int.fdiv_eq_ediv_of_nonneg _ (by omega)]
    exact Int.lt_of_le_of_lt (Int.ediv_le_self _ hx0) hx1
  exact Done.intro _ (by k_asm) (news_sub (by assumption) (by walk_at "my sub")) ⟨_, _, _, _, a1, a2, a3, a4, rfl, rfl⟩
end
section
theorem ints_some : ∀ (ys : List Value), (∀ y ∈ ys, ∃ d t, y = Value.int d t ∧ 0 ≤ d ∧ d < 256) → ∃ ns, IntsAre ys ns ∧ KBa.In ns
  | [], _ => ⟨[], .nil, fun _ h => (nomatch h)⟩
  | y :: r, h => by
    obtain ⟨d, t, rfl, d0, d1⟩ := h y (.head _)
    obtain ⟨ns, hi, hn⟩ := ints_some r fun z hz => h z (.tail _ hz)
    refine ⟨d :: ns, .cons d t hi, fun k hk => ?_⟩
    rcases List.mem_cons.mp hk with rfl | hk
    · exact ⟨d0, d1⟩
    · exact hn k hk
set_option maxHeartbeats 1000000 in
theorem c_octets (w : World) mean mg mb (p : Addr) (x many : Int) (n : Nat) (t1 t2 : Tok) (hx0 : 0 ≤ x) (hx1 : x < 2 ^ 420) (hm0 : 0 ≤ many) (hm1 : many ≤ 1000) :
    HCtr w mean mg mb 2 113 [.ref p, .int many t1] [(p, listOf #[.int x t2] n)]
      (fun r news' => ∃ (b : Array UInt8) (x' : Int) (t t' : Tok), (b.size : Int) = many ∧ 0 ≤ x' ∧ x' < 2 ^ 420 ∧ r = .bytes b t ∧ news' = [(p, listOf #[.int x' t'] n)]) := by
  (((refine' h_enterX ?ho ?hcd ?hbind ?hkind ?hnd ?hco ?hgen ?hk ?hl ?_; (case ho => k_dflt k_is); (case hcd => k_dflt k_is); (case hbind => intro s Xs; first | exact BindsTo.of_eq rfl | (k_dflt exact binds_K Xs rfl (by k_is) rfl rfl rfl)); (case hkind => exact rfl); (case hnd => decide +kernel); (case hco => exact rfl); (case hgen => exact rfl); (case hk => exact rfl); (case hl => decide); k_whole; intro dp un gd env outer base g L h₁ tk cells s B F N' Y' l1 X T hd hu; (have hdr := room1 hd); (have hur := room3 hu); (try k_lt l1); k_cells Y'; (try simp only [List.cons_append, List.nil_append] at N'); (try dsimp only); (with_reducible show wpAny _ _ _ _ _ _); k_fold)))
  walk1
  (try dsimp only)
  walk1
  (try dsimp only)
  walk1
  (try dsimp only)
  walk1
  (try dsimp only)
  walk1
  (try dsimp only)
  walk1
  (try dsimp only)
  walk1
  (try dsimp only)
  walk1
  (try dsimp only)
  walk1
  (try dsimp only)
  walk1
  (try dsimp only)
  walk1
  (try dsimp only)
  walk1
  (try dsimp only)
  walk1
  (try dsimp only)
  k_here
  rename Fr _ _ _ _ => Fz
  rename News _ _ _ _ => Nz
  refine call_range_1 ?_
  refine LCg.CompSrc.range (n := many.toNat) rfl (Fz.push _) (News.pushKeep Nz _) (IsRange.new _ _ _ _ _ _ _) (small_one (by omega) (by omega) (by omega) (by omega)) (by rw [rangeSize_nat]; congr 1; omega) (by rw [sizeLine_eq]; omega) (fun g' => ?_)
  refine comp_ind many.toNat (fun i ys news => ys.length = i ∧ (∀ y ∈ ys, ∃ d t, y = Value.int d t ∧ 0 ≤ d ∧ d < 256) ∧ ∃ oc x' t', oc.data = .cell (some (.ref p)) ∧ 0 ≤ x' ∧ x' < 2 ^ 420 ∧ news = [(L + 1, oc), (p, listOf #[.int x' t'] n)]) ?fin ?step _ _ _ _ (Nat.zero_add _) ⟨rfl, (fun y hy => nomatch hy), _, x, t2, (by assumption), hx0, hx1, rfl⟩
  case fin =>
    rintro ys news ⟨hyl, hys, oc, x', t', hoc, hx0', hx1', rfl⟩
    intro D h tk' F3 N3 off3
    dsimp only
    walk1
    (try dsimp only)
    obtain ⟨ns, hin, hr⟩ := ints_some ys hys
    have hnl : ns.length = many.toNat := by rw [← hin.length, hyl]
    refine KBa.make_K F3 N3 rfl ⟨_, (N3 _ (.head _)).1, rfl, _, rfl⟩ hin hr (by omega) ?_
    intro h2 t3 k3 F4 N4 _
    (try dsimp only)
    (try k_unfold)
    (try dsimp only)
    exact Done.intro [(p, listOf #[.int x' t'] n)] F4 (news_sub N4 (by walk_at "my sub")) ⟨byteArr ns, x', t3, t', by rw [byteArr_size, hnl]; omega, hx0', hx1', rfl, rfl⟩
  case step =>
    rintro i ys news hi ⟨hyl, hys, oc, x', t', hoc, hx0', hx1', rfl⟩ v I oI C oC D m₂ h tk' E' ⟨tv, rfl⟩ hNs hm2 F3 N3 off3 ne3
    have lp : @LT.lt Nat _ p L := by simpa using l1
    obtain ⟨⟨q1, q2, q3⟩, ⟨q4, q5, q6⟩, _⟩ := off3
    dsimp only at q1 q2 q3 q4 q5 q6
    obtain ⟨q7, q8, q9⟩ := ne3
    k_steps
    refine' h_call (c_digit w _ _ _ p x' 256 n _ t' hx0' hx1' (by decide) (by decide)) ?cB ?cF ?cX ?cN ?cT ?hS ?ch ?cA ?cf ?ck ?cd ?cu ?_
    walk_at "my sides"
    case hS => walk_at "my sels"
    intro r4 n4 h4 tk4 F4 N4 cr4 hp4
    obtain ⟨d, x4, t4, t5, d0, d1, x0, x1, rfl, rfl⟩ := hp4
    clear cr4
    simp only [List.cons_append, List.nil_append] at N4
    (try dsimp only)
    (try k_unfold)
    (try dsimp only)
    refine ⟨h4, tk4, [(L + 1, oc), (p, listOf #[.int x4 t5] n)], rfl, F4, news_sub N4 (by walk_at "my sub"), ⟨⟨q1, q2, q3⟩, ⟨q4, q5, q6⟩, trivial⟩, trivial, ?_, ?_, oc, x4, t5, hoc, x0, x1, rfl⟩
    · rw [List.length_append, List.length_singleton, hyl]
    · intro y hy
      rcases List.mem_append.mp hy with hy | hy
      · exact hys y hy
      · exact ⟨d, t4, List.mem_singleton.mp hy, d0, d1⟩
end
section
set_option maxHeartbeats 1000000 in
theorem c_purse (w : World) mean mg mb (sc : Addr) (vs : List Value) (ks : List Int) (Bd : Int) (hi : IntsAre vs ks) (hB : ∀ k ∈ ks, (k.natAbs : Int) ≤ Bd) (hB0 : 0 ≤ Bd) (nb : Nat) (hnb : nb ≤ 100000000) (hBd : (2 * Bd + 2).natAbs < 2 ^ nb) (hlen : ks.length ≤ 63) :
    HCtrP (fun g => g.IsList sc vs.toArray) w mean mg mb 1 101 [.ref sc] []
      (fun r news' => ∃ p x t n, 0 ≤ x ∧ x < 2 ^ 420 ∧ r = .ref p ∧ news' = [(p, listOf #[.int x t] n)]) := by
  refine' h_enterP ?ho ?hcd ?hbind ?hloc ?hco ?hgen ?hk ?hcell ?hl ?_
  case ho => k_dflt k_is
  case hcd => k_dflt k_is
  case hbind => intro s Xs; exact BindsTo.of_eq rfl
  case hloc => exact locs rfl
  case hco => exact rfl
  case hgen => exact rfl
  case hk => exact rfl
  case hcell => decide
  case hl => decide
  k_whole
  intro dp un gd env outer base g L h₁ s B F N l1 X T pg hd hu
  dsimp only
  with_reducible show wpAny _ _ _ _ _ _
  k_fold
  walk1
  (try dsimp only)
  walk1
  (try dsimp only)
  walk1
  (try dsimp only)
  walk1
  (try dsimp only)
  walk1
  (try dsimp only)
  rename Fr _ _ _ _ => Fz
  refine wpAny_execs_cons ?_
  refine For_pair3F Fz rfl rfl rfl rfl ?_ (by intro _; rfl)
  walk1
  (try dsimp only)
  walk1
  (try dsimp only)
  walk1
  (try dsimp only)
  walk1
  (try dsimp only)
  walk1
  (try dsimp only)
  walk1
  (try dsimp only)
  walk1
  (try dsimp only)
  walk1
  (try dsimp only)
  walk1
  (try dsimp only)
  walk1
  (try dsimp only)
  walk1
  (try dsimp only)
  rename News _ _ _ _ => Nz
  refine kms_slice_lit (s := ⟨_, _, _, _, _⟩) (its := vs.toArray) (lo := none) (hi := some 20) Fz Nz (pg.at fun o e => Fz.keep _ _ e) (by constructor) (by constructor) rfl ?_ (by with_unfolding_all rfl) (by intro _; with_unfolding_all rfl) (by rw [List.size_toArray, hi.length, sizeLine_eq]; omega)
  intro D h2 F2 N2 l2
  (try dsimp only)
  walk1
  (try dsimp only)
  have hz : IntsAre (kms_pick vs none (some 20)) ((ks.drop (kms_lo none vs.length)).take (kms_hi (some 20) vs.length - kms_lo none vs.length)) := (hi.drop _).take _
  generalize hzk : (ks.drop (kms_lo none vs.length)).take (kms_hi (some 20) vs.length - kms_lo none vs.length) = zk at hz
  have hz20 : zk.length ≤ 20 := by
    rw [← hzk, List.length_take]
    have : kms_hi (some 20) vs.length ≤ 20 := by unfold kms_hi; simp; omega
    omega
  have hzB : ∀ c ∈ zk, (c.natAbs : Int) ≤ Bd := fun c hc => hB c (List.mem_of_mem_drop (List.mem_of_mem_take (by rw [hzk]; exact hc)))
  refine enum_led (news := []) (K := .int) (as := zk) rfl ⟨_, (N2 _ (.head _)).1, rfl, _, rfl⟩ hz.areOf F2 News.nil (N2 _ (.head _)).2.1 (fun _ h => nomatch h) ?_
  intro h3 e F3 N3 src
  refine src.at _ rfl _ _ _ _ (fun i m₁ nx => nx = [] ∧ ∃ a ta, m₁ (Str.ofString "amount") = some (.int a ta) ∧ 0 ≤ a ∧ a ≤ (2 * Bd + 2) * 1000 ^ i) ⟨rfl, 1, _, rfl, by decide, by rw [Int.pow_zero]; omega⟩ ?step ?done
  case step =>
    rintro i c t v m₁ news₁ s₁ own ⟨h', tk', rfl⟩ hga ⟨tv, rfl⟩ ⟨rfl, a0, ta, hm1, b0, b1⟩ _ hown F4 N4
    have em : m₁ = fun y => if y = Str.ofString "amount" then some (.int a0 ta) else m₁ y := by
      funext y
      by_cases hy : y = Str.ofString "amount"
      · rw [if_pos hy, hy, hm1]
      · rw [if_neg hy]
    rw [em] at F4
    have hi20 : i < 20 := by
      have := (List.getElem?_eq_some_iff.mp hga).1
      omega
    have hcB := hzB c (List.mem_of_getElem? hga)
    have ib : IntMulOk ((2 * if c < 0 then -c else c) + if decide (c < 0) = true then 1 else 0) (1000 ^ (i : Int).toNat) := by
      refine IntMulOk.of_le (m := nb) (n := 200) (intBits_le_iff.mpr (Nat.lt_of_le_of_lt ?_ hBd)) (intBits_le_iff.mpr ?_) (by omega)
      · split <;> split <;> omega
      · rw [Int.toNat_natCast, Int.natAbs_pow]
        exact Nat.lt_of_le_of_lt (Nat.pow_le_pow_right (by decide) (Nat.le_of_lt hi20)) (by decide)
    (try dsimp only)
    k_steps
    all_goals
      have hs := purse_step b0 b1 hcB (if decide (c < 0) = true then 1 else 0) (by split <;> omega) (by split <;> omega)
      rw [show (c.natAbs : Int) = if c < 0 then -c else c by split <;> omega] at hs
      rw [Int.toNat_natCast]
      first | exact hs.1 | exact hs.2
  case done =>
    rintro h' tk' m' news' F4 N4 _ ⟨rfl, a0, ta, hm1, b0, b1⟩
    have em : m' = fun y => if y = Str.ofString "amount" then some (.int a0 ta) else m' y := by
      funext y
      by_cases hy : y = Str.ofString "amount"
      · rw [if_pos hy, hy, hm1]
      · rw [if_neg hy]
    rw [em] at F4
    (try dsimp only)
    k_steps
    walk_at "my done"
    have m0 : 0 ≤ a0.fmod (10 ^ Int.toNat 120) := Int.fmod_nonneg_of_pos _ (by decide)
    have m1 : a0.fmod (10 ^ Int.toNat 120) < 2 ^ 420 := Int.lt_trans (Int.fmod_lt_of_pos _ (by decide)) (by decide)
    exact Done.intro _ (by k_asm) (news_sub (by assumption) (by walk_at "my sub")) ⟨_, _, _, _, m0, m1, rfl, rfl⟩
end
section
section
variable {w : World} {mean : ExcName → Option Value} {mg mb : Str → Option Value} {A A₀ : Around} {env : Env} {outer : List Env} {base h₀ : Heap} {L : Addr} {m : Str → Option Value} {s : Shared} {news rest : Led} {Q E : Value → Shared → Prop}
theorem digit_call {p : Addr} {x many : Int} {n : Nat} {t1 t2 : Tok} (F : Fr h₀ L s.heap m) (N : News h₀ L s.heap news) (hS : Sel p (listOf #[.int x t2] n) news rest) (hx0 : 0 ≤ x) (hx1 : x < 2 ^ 420) (hm0 : 0 < many) (hm1 : many ≤ 2 ^ 64)
    (B : Below A₀ base outer h₀) (X : (Mine.hd.heap_39 w.params).In h₀) (T : TopM mean mg mb h₀)
    (hh : A.handled = none) (hA : A.frames = some (env :: outer)) (hf : env.frame = some L) (hke : env.scope.kind = .function) (hd : A.depth + 1 < recursionLimit) (hu : A.units + 8 * 1 < cLine)
    (ret : ∀ d x' t t' h' tk', 0 ≤ d → d < many → 0 ≤ x' → x' < 2 ^ 420 → Fr h₀ L h' m → News h₀ L h' ((p, listOf #[.int x' t'] n) :: rest) → Q (.int d t) { s with heap := h', toks := tk' }) :
    wpAny (MM w) A (call (.ref 108) [.ref p, .int many t1]) Q E s := by
  refine h_call (c_digit w mean mg mb p x many n t1 t2 hx0 hx1 hm0 hm1) B F X N T (Sels.cons hS Sels.nil) hh hA hf hke hd hu ?_
  intro r n' h' tk' F' N' _ hp
  obtain ⟨d, x', t, t', d0, d1, x0, x1, rfl, rfl⟩ := hp
  exact ret d x' t t' h' tk' d0 d1 x0 x1 F' N'
theorem octets_call {p : Addr} {x many : Int} {n : Nat} {t1 t2 : Tok} (F : Fr h₀ L s.heap m) (N : News h₀ L s.heap news) (hS : Sel p (listOf #[.int x t2] n) news rest) (hx0 : 0 ≤ x) (hx1 : x < 2 ^ 420) (hm0 : 0 ≤ many) (hm1 : many ≤ 1000)
    (B : Below A₀ base outer h₀) (X : (Mine.hd.heap_39 w.params).In h₀) (T : TopM mean mg mb h₀)
    (hh : A.handled = none) (hA : A.frames = some (env :: outer)) (hf : env.frame = some L) (hke : env.scope.kind = .function) (hd : A.depth + 2 < recursionLimit) (hu : A.units + 8 * 2 < cLine)
    (ret : ∀ (b : Array UInt8) x' t t' h' tk', (b.size : Int) = many → 0 ≤ x' → x' < 2 ^ 420 → Fr h₀ L h' m → News h₀ L h' ((p, listOf #[.int x' t'] n) :: rest) → Q (.bytes b t) { s with heap := h', toks := tk' }) :
    wpAny (MM w) A (call (.ref 113) [.ref p, .int many t1]) Q E s := by
  refine h_call (c_octets w mean mg mb p x many n t1 t2 hx0 hx1 hm0 hm1) B F X N T (Sels.cons hS Sels.nil) hh hA hf hke hd hu ?_
  intro r n' h' tk' F' N' _ hp
  obtain ⟨b, x', t, t', hb, x0, x1, rfl, rfl⟩ := hp
  exact ret b x' t t' h' tk' hb x0 x1 F' N'
end
/-- a statement that leaves two ints, whatever its ways -/
theorem cut2 {M : Model} {A : Around} {E : Value → Shared → Prop} {s : Shared} {env : Env} {h₀ : Heap} {L : Addr} {m : Str → Option Value} {news : Led} {st : Stmt} {rest : List Stmt} {Q : Flow → Shared → Prop} (P : Int → Int → Prop) (a b : Str)
    (h : wpAny M A (exec st env) (fun f s' => f = .next ∧ ∃ h' tk' x y t1 t2, s' = { s with heap := h', toks := tk' } ∧ Fr h₀ L h' (fun n => if n = b then some (.int y t2) else if n = a then some (.int x t1) else m n) ∧ News h₀ L h' news ∧ P x y) E s)
    (k : ∀ h' tk' x y t1 t2, Fr h₀ L h' (fun n => if n = b then some (.int y t2) else if n = a then some (.int x t1) else m n) → News h₀ L h' news → P x y → wpCl M A (execs rest env) Q E { s with heap := h', toks := tk' }) :
    wpCl M A (execs (st :: rest) env) Q E s := by
  refine cl_execs (wpAny_mono h (fun f s' q => ?_) fun _ _ e => e)
  obtain ⟨rfl, h', tk', x, y, t1, t2, rfl, F, N, p⟩ := q
  exact ⟨rfl, k h' tk' x y t1 t2 F N p⟩
theorem cut1 {M : Model} {A : Around} {E : Value → Shared → Prop} {s : Shared} {env : Env} {h₀ : Heap} {L : Addr} {m : Str → Option Value} {st : Stmt} {rest : List Stmt} {Q : Flow → Shared → Prop} (F : Fr h₀ L s.heap m) (P : Int → Led → Prop) (a : Str)
    (h : wpAny M A (exec st env) (fun f s' => f = .next ∧ ∃ h' tk' x t1 news', s' = { s with heap := h', toks := tk' } ∧ Fr h₀ L h' (fun n => if n = a then some (.int x t1) else m n) ∧ News h₀ L h' news' ∧ P x news') E s)
    (k : ∀ h' tk' x t1 news', Fr h₀ L h' (fun n => if n = a then some (.int x t1) else m n) → News h₀ L h' news' → P x news' → wpCl M A (execs rest env) Q E { s with heap := h', toks := tk' }) :
    wpCl M A (execs (st :: rest) env) Q E s := by
  refine cl_execs (wpAny_mono h (fun f s' q => ?_) fun _ _ e => e)
  obtain ⟨rfl, h', tk', x, t1, news', rfl, F, N, p⟩ := q
  exact ⟨rfl, k h' tk' x t1 news' F N p⟩
theorem Fr_see {h₀ h : Heap} {L : Addr} {m : Str → Option Value} (F : Fr h₀ L h m) (a : Str) {v : Value} (e : m a = some v) : Fr h₀ L h (fun y => if y = a then some v else m y) := by
  have em : (fun y => if y = a then some v else m y) = m := by
    funext y
    by_cases hy : y = a
    · rw [if_pos hy, hy, e]
    · rw [if_neg hy]
  rw [em]; exact F
theorem two_looks {K : Frag} {f : Addr} {name name' qual qual' : Str} {params params' : Arguments} {body body' : List Stmt} {scope scope' : Scope} {dV kV doc pm cdv ct oc dV' kV' doc' pm' cdv' ct' oc' : Value} {an od an' od' : Option Addr} {osl osl' : Array (Option Value)} {G : Str → List Stmt → Scope → Value → Prop}
    (h1 : K.lookup f = some ⟨oc, od, .func (fnOf name qual params body scope dV kV doc pm an cdv ct), osl⟩) (h2 : K.lookup f = some ⟨oc', od', .func (fnOf name' qual' params' body' scope' dV' kV' doc' pm' an' cdv' ct'), osl'⟩)
    (g : G qual' body' scope' cdv') : G qual body scope cdv := by
  rw [h2] at h1
  injection h1 with h1
  injection h1 with e1 e2 e3 e4
  injection e3 with e3
  have q1 : qual' = qual := congrArg FuncData.qualname e3
  have q2 : body' = body := FuncBody.stmts.inj (congrArg FuncData.body e3)
  have q3 : scope' = scope := congrArg FuncData.scope e3
  have q4 : cdv' = cdv := congrArg FuncData.code e3
  subst q1 q2 q3 q4
  exact g
/-- the law's frame stands at these statements -/
def LawAt (w : World) (s : Shared) (L : Addr) (Q : Value → Shared → Prop) (dp un : Nat) (gd : Option (List Code)) (qual : Str) (scope : Scope) (cdv : Value) (rest : List Stmt) (h : Heap) (tk : Nat) : Prop :=
  wpCl (MM w) (ktrTop (dp + 1) (un + 3) gd qual scope L 172 cdv (cellsFrom (L + 1) scope.names []) []) (execs rest (envOfC qual scope L 172 cdv)) (fun fl s' => Q (match fl with | .ret v => v | _ => .none) s') (fun _ _ => False) { s with heap := h, toks := tk }
abbrev tup2 (x : Int) (a : Tok) (y : Int) (b : Tok) : Obj := { cls := .type "tuple", data := .seq #[.int x a, .int y b] }
/-- a written table of six pairs at an open place: one path -/
theorem sub6 {prog : Program} {w : World} {A : Around} {E : Value → Shared → Prop} {s : Shared} {g : Heap} {L : Addr} {value slice : Expr} {l D0 D1 D2 D3 D4 D5 : Addr} {n : Nat} {x0 x1 x2 x3 x4 x5 y0 y1 y2 y3 y4 y5 : Int} {a0 a1 a2 a3 a4 a5 b0 b1 b2 b3 b4 b5 : Tok} {news : Led} {d : Int} {u : Tok} {Q : Value → Shared → Prop}
    (N : News g L s.heap ((l, listOf #[.ref D0, .ref D1, .ref D2, .ref D3, .ref D4, .ref D5] n) :: (D5, tup2 x5 a5 y5 b5) :: (D4, tup2 x4 a4 y4 b4) :: (D3, tup2 x3 a3 y3 b3) :: (D2, tup2 x2 a2 y2 b2) :: (D1, tup2 x1 a1 y1 b1) :: (D0, tup2 x0 a0 y0 b0) :: news))
    (hd0 : 0 ≤ d) (hd6 : d < 6) (P : Int → Int → Prop) (hP : (d = 0 → P x0 y0) ∧ (d = 1 → P x1 y1) ∧ (d = 2 → P x2 y2) ∧ (d = 3 → P x3 y3) ∧ (d = 4 → P x4 y4) ∧ (d = 5 → P x5 y5))
    (hs : subscripted slice false (.ref l) (.int d u) = operate [.ref l, .int d u] (getItem (.ref l) (.int d u)))
    (h : ∀ t x y a b, News g L s.heap ((t, tup2 x a y b) :: news) → P x y → Q (.ref t) s) : wpAny (model prog w) A (subscriptTail value slice (.ref l) (.int d u)) Q E s := by
  have hl : s.heap.IsList l [Value.ref D0, .ref D1, .ref D2, .ref D3, .ref D4, .ref D5].toArray := ⟨_, (N _ (.head _)).1, rfl, _, rfl⟩
  obtain ⟨p0, p1, p2, p3, p4, p5⟩ := hP
  have key : ∃ t x y a b, [Value.ref D0, .ref D1, .ref D2, .ref D3, .ref D4, .ref D5][d.toNat]? = some (.ref t) ∧ News g L s.heap ((t, tup2 x a y b) :: news) ∧ P x y := by
    have sub : ∀ (z : Addr × Obj), z ∈ ((l, listOf #[.ref D0, .ref D1, .ref D2, .ref D3, .ref D4, .ref D5] n) :: (D5, tup2 x5 a5 y5 b5) :: (D4, tup2 x4 a4 y4 b4) :: (D3, tup2 x3 a3 y3 b3) :: (D2, tup2 x2 a2 y2 b2) :: (D1, tup2 x1 a1 y1 b1) :: (D0, tup2 x0 a0 y0 b0) :: news) → News g L s.heap (z :: news) := fun z hz => news_sub N fun p hp => by
      rcases List.mem_cons.mp hp with rfl | hp
      · exact hz
      · exact .tail _ (.tail _ (.tail _ (.tail _ (.tail _ (.tail _ (.tail _ hp))))))
    have hd : d = 0 ∨ d = 1 ∨ d = 2 ∨ d = 3 ∨ d = 4 ∨ d = 5 := by omega
    rcases hd with rfl | rfl | rfl | rfl | rfl | rfl
    · exact ⟨_, _, _, _, _, rfl, sub _ (.tail _ (.tail _ (.tail _ (.tail _ (.tail _ (.tail _ (.head _))))))), p0 rfl⟩
    · exact ⟨_, _, _, _, _, rfl, sub _ (.tail _ (.tail _ (.tail _ (.tail _ (.tail _ (.head _)))))), p1 rfl⟩
    · exact ⟨_, _, _, _, _, rfl, sub _ (.tail _ (.tail _ (.tail _ (.tail _ (.head _))))), p2 rfl⟩
    · exact ⟨_, _, _, _, _, rfl, sub _ (.tail _ (.tail _ (.tail _ (.head _)))), p3 rfl⟩
    · exact ⟨_, _, _, _, _, rfl, sub _ (.tail _ (.tail _ (.head _))), p4 rfl⟩
    · exact ⟨_, _, _, _, _, rfl, sub _ (.tail _ (.head _)), p5 rfl⟩
  obtain ⟨t, x, y, a, b, hx, hN, hp⟩ := key
  exact item_litK hl hd0 (by omega) hx (h t x y a b hN hp) hs
theorem menu4 {a i : Int} (h0 : 0 ≤ i) (h4 : i < 4) (a0 : 0 ≤ a) (a1 : a < 18446744073709551616) : 0 ≤ [0, 1, 18446744073709551616 - 1, a].getD i.toNat 0 ∧ [0, 1, 18446744073709551616 - 1, a].getD i.toNat 0 < 18446744073709551616 := by
  have : i = 0 ∨ i = 1 ∨ i = 2 ∨ i = 3 := by omega
  rcases this with rfl | rfl | rfl | rfl
  · exact (show (0 : Int) ≤ 0 ∧ (0 : Int) < 18446744073709551616 by decide)
  · exact (show (0 : Int) ≤ 1 ∧ (1 : Int) < 18446744073709551616 by decide)
  · exact (show (0 : Int) ≤ 18446744073709551616 - 1 ∧ (18446744073709551616 - 1 : Int) < 18446744073709551616 by decide)
  · exact ⟨a0, a1⟩
end
section
set_option maxHeartbeats 400000 in
theorem law_B {w : World} {mean mg mb} {name qual : Str} {params : Arguments} {body : List Stmt} {scope : Scope} {dV kV doc pm cdv ct oc : Value} {an od : Option Addr} {osl : Array (Option Value)}
    (ho : (Mine.hd.heap_39 w.params).lookup 172 = some ⟨oc, od, .func (fnOf name qual params body scope dV kV doc pm an cdv ct), osl⟩)
    {dp un : Nat} {gd : Option (List Code)} {s : Shared} {Q : Value → Shared → Prop} (X : (Mine.hd.heap_39 w.params).In s.heap) (T : TopM mean mg mb s.heap) (hd : dp + 8 < recursionLimit) (hu : un + 64 < cLine)
    {L : Addr} {h : Heap} {tk : Nat} {m : Str → Option Value} {news : Led} (d : Int) (t0 : Tok) (F : Fr s.heap L h (fun n => if n = Str.ofString "way" then some (.int d t0) else m n)) (N : News s.heap L h news) (hd0 : 0 ≤ d) (hd6 : d < 6) :
    (∀ h' tk' x y t1 t2, Fr s.heap L h' (fun n => if n = Str.ofString "ends" then some (.int y t2) else if n = Str.ofString "size" then some (.int x t1) else if n = Str.ofString "way" then some (.int d t0) else m n) → News s.heap L h' news →
      ((x = 8 ∧ 0 < y ∧ y ≤ 8) ∨ (x = 4 ∧ 0 < y ∧ y ≤ 4 ∧ d ≠ 4) ∨ (x = 1 ∧ 0 < y ∧ y ≤ 3 ∧ d ≠ 4)) →
      LawAt w s L Q dp un gd qual scope cdv (body.drop 3) h' tk') →
    LawAt w s L Q dp un gd qual scope cdv (body.drop 2) h tk := by
  have hBel : Below (arnd dp un gd []) s.heap [] s.heap := ⟨rfl, fun _ _ e => e, trivial⟩
  have hdr := room1 hd
  have hur := room3 hu
  refine' two_looks ho ?h2 ?_ (G := fun qual body scope cdv => (∀ h' tk' x y t1 t2, Fr s.heap L h' (fun n => if n = Str.ofString "ends" then some (.int y t2) else if n = Str.ofString "size" then some (.int x t1) else if n = Str.ofString "way" then some (.int d t0) else m n) → News s.heap L h' news →
      ((x = 8 ∧ 0 < y ∧ y ≤ 8) ∨ (x = 4 ∧ 0 < y ∧ y ≤ 4 ∧ d ≠ 4) ∨ (x = 1 ∧ 0 < y ∧ y ≤ 3 ∧ d ≠ 4)) →
      LawAt w s L Q dp un gd qual scope cdv (body.drop 3) h' tk') →
    LawAt w s L Q dp un gd qual scope cdv (body.drop 2) h tk)
  case h2 => k_dflt k_is
  k_whole
  intro next
  dsimp only [List.drop] at next ⊢
  unfold LawAt at next ⊢
  with_reducible refine cut2 (fun x y => (x = 8 ∧ 0 < y ∧ y ≤ 8) ∨ (x = 4 ∧ 0 < y ∧ y ≤ 4 ∧ d ≠ 4) ∨ (x = 1 ∧ 0 < y ∧ y ≤ 3 ∧ d ≠ 4)) (Str.ofString "size") (Str.ofString "ends") (h₀ := s.heap) (L := L) (m := fun n => if n = Str.ofString "way" then some (.int d t0) else m n) (news := news) ?_ ?_
  rotate_left
  · with_reducible exact next
  clear next
  k_steps
  k_sweep
  rename Fr _ _ _ _ => F7
  rename News _ _ _ _ => N7
  refine sub6 N7 hd0 hd6 (fun x y => (x = 8 ∧ 0 < y ∧ y ≤ 8) ∨ (x = 4 ∧ 0 < y ∧ y ≤ 4 ∧ d ≠ 4) ∨ (x = 1 ∧ 0 < y ∧ y ≤ 3 ∧ d ≠ 4)) ⟨fun _ => .inl ⟨rfl, by decide, by decide⟩, fun _ => .inl ⟨rfl, by decide, by decide⟩, fun e => .inr (.inl ⟨rfl, by decide, by decide, by rw [e]; decide⟩), fun e => .inr (.inr ⟨rfl, by decide, by decide, by rw [e]; decide⟩), fun _ => .inl ⟨rfl, by decide, by decide⟩, fun e => .inr (.inr ⟨rfl, by decide, by decide, by rw [e]; decide⟩)⟩ (by with_unfolding_all rfl) ?_
  clear N7
  intro t x y a b N8 hp
  k_steps
  · exact trivial
  · assumption
  · exact news_sub (by assumption) (fun _ h => .tail _ h)
  · exact hp
end
section
set_option maxHeartbeats 800000 in
theorem law_C {w : World} {mean mg mb} {name qual : Str} {params : Arguments} {body : List Stmt} {scope : Scope} {dV kV doc pm cdv ct oc : Value} {an od : Option Addr} {osl : Array (Option Value)}
    (ho : (Mine.hd.heap_39 w.params).lookup 172 = some ⟨oc, od, .func (fnOf name qual params body scope dV kV doc pm an cdv ct), osl⟩)
    {dp un : Nat} {gd : Option (List Code)} {s : Shared} {Q : Value → Shared → Prop} (X : (Mine.hd.heap_39 w.params).In s.heap) (T : TopM mean mg mb s.heap) (hd : dp + 8 < recursionLimit) (hu : un + 64 < cLine)
    {L : Addr} {h : Heap} {tk : Nat} {m : Str → Option Value} {o' : Obj} {p : Addr} {x0 : Int} {u0 : Tok} {n0 : Nat} (d z y : Int) (t0 t1 t2 : Tok) (F : Fr s.heap L h (fun n => if n = Str.ofString "ends" then some (.int y t2) else if n = Str.ofString "size" then some (.int z t1) else if n = Str.ofString "way" then some (.int d t0) else if n = Str.ofString "purse" then some (.ref p) else m n))
    (N : News s.heap L h [(p, listOf #[.int x0 u0] n0), (L + 1, o')]) (hp : p ≠ L + 1) (x00 : 0 ≤ x0) (x01 : x0 < 2 ^ 420) (hd0 : 0 ≤ d) (hd6 : d < 6)
    (hP : (z = 8 ∧ 0 < y ∧ y ≤ 8) ∨ (z = 4 ∧ 0 < y ∧ y ≤ 4 ∧ d ≠ 4) ∨ (z = 1 ∧ 0 < y ∧ y ≤ 3 ∧ d ≠ 4)) :
    (∀ h' tk' (m' : Str → Option Value) (sd : B) (bp bt ba : Array UInt8) tp tt ta ts x1 u1 dm, Fr s.heap L h' (fun n => if n = Str.ofString "part" then some (.bytes bp tp) else if n = Str.ofString "tail" then some (.bytes bt tt) else if n = Str.ofString "ahead" then some (.bytes ba ta) else if n = Str.ofString "seed" then some (.int (I sd) ts) else m' n) →
      m' (Str.ofString "size") = some (.int z t1) → m' (Str.ofString "purse") = some (.ref p) → News s.heap L h' [(p, listOf #[.int x1 u1] n0), (L + 1, o')] → 0 ≤ x1 → x1 < 2 ^ 420 → (bp.size : Int) = z → dm < y → (bt.size : Int) = dm → (ba.size : Int) = 8 * (if (d == 4) = true then 1 else 0) →
      LawAt w s L Q dp un gd qual scope cdv (body.drop 6) h' tk') →
    LawAt w s L Q dp un gd qual scope cdv (body.drop 3) h tk := by
  have hBel : Below (arnd dp un gd []) s.heap [] s.heap := ⟨rfl, fun _ _ e => e, trivial⟩
  have hpc2 : ¬ @Eq Nat p (L + 1) := hp
  have hdr := room1 hd
  have hur := room3 hu
  refine' two_looks ho ?h2 ?_ (G := fun qual body scope cdv => (∀ h' tk' (m' : Str → Option Value) (sd : B) (bp bt ba : Array UInt8) tp tt ta ts x1 u1 dm, Fr s.heap L h' (fun n => if n = Str.ofString "part" then some (.bytes bp tp) else if n = Str.ofString "tail" then some (.bytes bt tt) else if n = Str.ofString "ahead" then some (.bytes ba ta) else if n = Str.ofString "seed" then some (.int (I sd) ts) else m' n) →
      m' (Str.ofString "size") = some (.int z t1) → m' (Str.ofString "purse") = some (.ref p) → News s.heap L h' [(p, listOf #[.int x1 u1] n0), (L + 1, o')] → 0 ≤ x1 → x1 < 2 ^ 420 → (bp.size : Int) = z → dm < y → (bt.size : Int) = dm → (ba.size : Int) = 8 * (if (d == 4) = true then 1 else 0) →
      LawAt w s L Q dp un gd qual scope cdv (body.drop 6) h' tk') →
    LawAt w s L Q dp un gd qual scope cdv (body.drop 3) h tk)
  case h2 => k_dflt k_is
  k_whole
  intro next
  dsimp only [List.drop] at next ⊢
  unfold LawAt
  refine cl_execs ?_
  k_steps
  all_goals (try exact trivial)
  k_sweep
  rename Fr _ _ _ _ => F8
  with_reducible refine cut1 F8 (fun v news' => (0 ≤ v ∧ v < 18446744073709551616) ∧ ∃ x1 u1, 0 ≤ x1 ∧ x1 < 2 ^ 420 ∧ news' = [(p, listOf #[.int x1 u1] n0), (L + 1, o')]) (Str.ofString "seed") ?_ ?_
  · clear next
    k_steps
    · exact trivial
    · assumption
    · exact news_sub (by assumption) (by walk_at "my sub")
    · exact (menu4 (by assumption) (by assumption) (by assumption) (by assumption)).1
    · exact (menu4 (by assumption) (by assumption) (by assumption) (by assumption)).2
    · assumption
    · assumption
  clear F8
  rename News _ _ _ _ => Nx
  clear Nx
  intro h5 tk5 sv ts news' F9 N9 hp9
  obtain ⟨⟨sv0, sv1⟩, x5, u5, x50, x51, rfl⟩ := hp9
  have esv : sv = I (BitVec.ofInt 64 sv) := I_of sv0 sv1
  generalize BitVec.ofInt 64 sv = sd at esv
  subst esv
  try dsimp only at F9
  clear sv0 sv1
  refine cl_execs ?_
  k_steps
  all_goals (try exact trivial)
  k_sweep
  unfold LawAt at next
  with_reducible refine' next _ _ _ _ _ _ _ _ _ _ _ _ _ _ ?nF ?n1 ?n2 ?nN ?n3 ?n4 ?n5 ?n6 ?n7 ?n8
  case nF => assumption
  case n1 => with_unfolding_all rfl
  case n2 => with_unfolding_all rfl
  case nN => exact news_sub (by assumption) (by walk_at "my sub")
  case n3 => k_asm
  case n4 => k_asm
  case n5 => k_asm
  case n7 => k_asm
  case n6 => k_asm
  case n8 => k_asm
end
section
set_option maxHeartbeats 400000 in
theorem law_D {w : World} {mean mg mb} {name qual : Str} {params : Arguments} {body : List Stmt} {scope : Scope} {dV kV doc pm cdv ct oc : Value} {an od : Option Addr} {osl : Array (Option Value)}
    (ho : (Mine.hd.heap_39 w.params).lookup 172 = some ⟨oc, od, .func (fnOf name qual params body scope dV kV doc pm an cdv ct), osl⟩)
    {dp un : Nat} {gd : Option (List Code)} {s : Shared} {Q : Value → Shared → Prop} (X : (Mine.hd.heap_39 w.params).In s.heap) (T : TopM mean mg mb s.heap) (hd : dp + 8 < recursionLimit) (hu : un + 64 < cLine)
    {L : Addr} {h : Heap} {tk : Nat} {m : Str → Option Value} {o' : Obj} {p : Addr} {x0 : Int} {u0 : Tok} {n0 : Nat} {sd : B} {bp bt ba : Array UInt8} {tp tt ta ts : Tok}
    (F : Fr s.heap L h (fun n => if n = Str.ofString "purse" then some (.ref p) else if n = Str.ofString "part" then some (.bytes bp tp) else if n = Str.ofString "tail" then some (.bytes bt tt) else if n = Str.ofString "ahead" then some (.bytes ba ta) else if n = Str.ofString "seed" then some (.int (I sd) ts) else m n))
    (N : News s.heap L h [(p, listOf #[.int x0 u0] n0), (L + 1, o')]) (hp : p ≠ L + 1) (x00 : 0 ≤ x0) (x01 : x0 < 2 ^ 420) (hsz : ba.size + bp.size + bt.size < 32) :
    (∀ h' tk' tx tf tc c x1 u1, Fr s.heap L h' (fun n => if n = Str.ofString "found" then some (.int (I (hashB sd (KBw.bInts (ba ++ bp ++ bt)))) tf) else if n = Str.ofString "cut" then some (.int c tc) else if n = Str.ofString "text" then some (.bytes (ba ++ bp ++ bt) tx) else if n = Str.ofString "purse" then some (.ref p) else if n = Str.ofString "part" then some (.bytes bp tp) else if n = Str.ofString "tail" then some (.bytes bt tt) else if n = Str.ofString "ahead" then some (.bytes ba ta) else if n = Str.ofString "seed" then some (.int (I sd) ts) else m n) →
      News s.heap L h' [(p, listOf #[.int x1 u1] n0), (L + 1, o')] → 0 ≤ x1 → x1 < 2 ^ 420 → 0 ≤ c → c < ((ba ++ bp ++ bt).size : Int) + 1 →
      LawAt w s L Q dp un gd qual scope cdv (body.drop 8) h' tk') →
    LawAt w s L Q dp un gd qual scope cdv (body.drop 6) h tk := by
  have hBel : Below (arnd dp un gd []) s.heap [] s.heap := ⟨rfl, fun _ _ e => e, trivial⟩
  have hdr := room1 hd
  have hur := room3 hu
  refine' two_looks ho ?h2 ?_ (G := fun qual body scope cdv => (∀ h' tk' tx tf tc c x1 u1, Fr s.heap L h' (fun n => if n = Str.ofString "found" then some (.int (I (hashB sd (KBw.bInts (ba ++ bp ++ bt)))) tf) else if n = Str.ofString "cut" then some (.int c tc) else if n = Str.ofString "text" then some (.bytes (ba ++ bp ++ bt) tx) else if n = Str.ofString "purse" then some (.ref p) else if n = Str.ofString "part" then some (.bytes bp tp) else if n = Str.ofString "tail" then some (.bytes bt tt) else if n = Str.ofString "ahead" then some (.bytes ba ta) else if n = Str.ofString "seed" then some (.int (I sd) ts) else m n) →
      News s.heap L h' [(p, listOf #[.int x1 u1] n0), (L + 1, o')] → 0 ≤ x1 → x1 < 2 ^ 420 → 0 ≤ c → c < ((ba ++ bp ++ bt).size : Int) + 1 →
      LawAt w s L Q dp un gd qual scope cdv (body.drop 8) h' tk') →
    LawAt w s L Q dp un gd qual scope cdv (body.drop 6) h tk)
  case h2 => k_dflt k_is
  k_whole
  intro next
  dsimp only [List.drop] at next ⊢
  unfold LawAt
  have hpc2 : ¬ @Eq Nat p (L + 1) := hp
  have h0 := I_nn sd
  have h1 := I_lt sd
  have hsT : (ba ++ bp ++ bt).size = ba.size + bp.size + bt.size := by rw [Array.size_append, Array.size_append]
  have hsA : (ba ++ bp).size = ba.size + bp.size := by rw [Array.size_append]
  refine cl_execs ?_
  k_steps
  all_goals (try exact trivial)
  k_sweep
  refine cl_execsC ?_
  refine cl_Assign_swapped ?_
  refine cl_Tuple ?_
  refine cl_evalCall ?_
  k_steps
  refine cl_args (P := (Mine.hd.heap_39 w.params).In) (keeps_K (by k_dflt k_is)) ?_
  k_steps
  refine' h_callC0 (c_xxh64 w _ _ _ sd _ _ _ _ rfl ?zb) ?cB ?cF ?cX ?cN ?cT ?ch ?cA ?cf ?ck ?cd ?cu ?_
  walk_at "my sides"
  case zb => omega
  walk_at "my nil"
  k_steps
  all_goals (try exact trivial)
  k_sweep
  unfold LawAt at next
  with_reducible refine' next _ _ _ _ _ _ _ _ ?nF ?nN ?n3 ?n4 ?n5 ?n6
  case nF => assumption
  case nN => exact news_sub (by assumption) (by walk_at "my sub")
  case n3 => k_asm
  case n4 => k_asm
  case n5 => k_asm
  case n6 => k_asm
end
section
theorem split_b (b : Array UInt8) (c : Int) : KBy.picked b none (some c) ++ KBy.picked b (some c) none = b := by
  rw [KBc.picked_eq, KBc.picked_eq]
  simp only [Option.elim, List.drop_zero, Nat.sub_zero]
  rw [List.take_of_length_le (l := b.toList.drop (clipAt b.size c)) (by rw [List.length_drop, Array.length_toList]; exact Nat.le_refl _), List.append_toArray, List.take_append_drop, Array.toArray_toList]
set_option maxHeartbeats 400000 in
theorem law_E {w : World} {mean mg mb} {name qual : Str} {params : Arguments} {body : List Stmt} {scope : Scope} {dV kV doc pm cdv ct oc : Value} {an od : Option Addr} {osl : Array (Option Value)}
    (ho : (Mine.hd.heap_39 w.params).lookup 172 = some ⟨oc, od, .func (fnOf name qual params body scope dV kV doc pm an cdv ct), osl⟩)
    {dp un : Nat} {gd : Option (List Code)} {s : Shared} {Q : Value → Shared → Prop} (X : (Mine.hd.heap_39 w.params).In s.heap) (T : TopM mean mg mb s.heap) (hd : dp + 8 < recursionLimit) (hu : un + 64 < cLine)
    {L : Addr} {h : Heap} {tk : Nat} {m : Str → Option Value} {o' po : Obj} {p : Addr} {sd : B} {c : Int} {tb : Array UInt8} {tc tx ts : Tok}
    (F : Fr s.heap L h (fun n => if n = Str.ofString "cut" then some (.int c tc) else if n = Str.ofString "text" then some (.bytes tb tx) else if n = Str.ofString "seed" then some (.int (I sd) ts) else m n))
    (N : News s.heap L h [(p, po), (L + 1, o')]) (hp : p ≠ L + 1) (hc0 : 0 ≤ c) (hc1 : c < (tb.size : Int) + 1) (hsz : tb.size < 32) :
    (∀ h' tk' (x dx ln kp : Addr) (g1 g2 g3 g4 : Int) (k1 k2 k3 k4 v1 v4 : Tok), Fr s.heap L h' (fun n => if n = Str.ofString "coder" then some (.ref x) else if n = Str.ofString "cut" then some (.int c tc) else if n = Str.ofString "text" then some (.bytes tb tx) else if n = Str.ofString "seed" then some (.int (I sd) ts) else m n) →
      News s.heap L h' [(x, instObj 74 dx), (dx, dictOf [⟨g1, .str (Str.ofString "seed") k1, .int (I sd) v1⟩, ⟨g2, .str (Str.ofString "lanes") k2, .ref ln⟩, ⟨g3, .str (Str.ofString "kept") k3, .ref kp⟩, ⟨g4, .str (Str.ofString "count") k4, .int (tb.size : Int) v4⟩] 4), (kp, baOf tb), (p, po), (L + 1, o')] → (x ≠ dx ∧ x ≠ kp ∧ dx ≠ kp) → (x ≠ p ∧ x ≠ L + 1 ∧ dx ≠ p ∧ dx ≠ L + 1 ∧ kp ≠ p ∧ kp ≠ L + 1) →
      LawAt w s L Q dp un gd qual scope cdv (body.drop 11) h' tk') →
    LawAt w s L Q dp un gd qual scope cdv (body.drop 8) h tk := by
  have hBel : Below (arnd dp un gd []) s.heap [] s.heap := ⟨rfl, fun _ _ e => e, trivial⟩
  have hdr := room1 hd
  have hur := room3 hu
  refine' two_looks ho ?h2 ?_ (G := fun qual body scope cdv => (∀ h' tk' (x dx ln kp : Addr) (g1 g2 g3 g4 : Int) (k1 k2 k3 k4 v1 v4 : Tok), Fr s.heap L h' (fun n => if n = Str.ofString "coder" then some (.ref x) else if n = Str.ofString "cut" then some (.int c tc) else if n = Str.ofString "text" then some (.bytes tb tx) else if n = Str.ofString "seed" then some (.int (I sd) ts) else m n) →
      News s.heap L h' [(x, instObj 74 dx), (dx, dictOf [⟨g1, .str (Str.ofString "seed") k1, .int (I sd) v1⟩, ⟨g2, .str (Str.ofString "lanes") k2, .ref ln⟩, ⟨g3, .str (Str.ofString "kept") k3, .ref kp⟩, ⟨g4, .str (Str.ofString "count") k4, .int (tb.size : Int) v4⟩] 4), (kp, baOf tb), (p, po), (L + 1, o')] → (x ≠ dx ∧ x ≠ kp ∧ dx ≠ kp) → (x ≠ p ∧ x ≠ L + 1 ∧ dx ≠ p ∧ dx ≠ L + 1 ∧ kp ≠ p ∧ kp ≠ L + 1) →
      LawAt w s L Q dp un gd qual scope cdv (body.drop 11) h' tk') →
    LawAt w s L Q dp un gd qual scope cdv (body.drop 8) h tk)
  case h2 => k_dflt k_is
  k_whole
  intro next
  dsimp only [List.drop] at next ⊢
  unfold LawAt
  have hpc2 : ¬ @Eq Nat p (L + 1) := hp
  have h0 := I_nn sd
  have h1 := I_lt sd
  refine cl_execsC ?_
  refine cl_Assign1 ?_
  refine cl_evalCall ?_
  k_steps
  refine cl_args (P := (Mine.hd.heap_39 w.params).In) (keeps_K (by k_dflt k_is)) ?_
  k_steps
  refine' cl_hasher w sd _ _ rfl ?cB ?cF ?cX ?cN ?cT ?ch ?cA ?cf ?ck ?cd ?cu ?_
  walk_at "my sides"
  intro x dx ln kp g1 g2 g3 g4 k1 k2 k3 k4 v1 v4 h' tk' F' N' hx hxk hdk hxn hdn hkn
  have e1 : ¬ @Eq Nat x dx := hx
  have e2 : ¬ @Eq Nat x kp := hxk
  have e3 : ¬ @Eq Nat dx kp := hdk
  have e4 : ¬ @Eq Nat x p := hxn _ (.head _)
  have e5 : ¬ @Eq Nat x (L + 1) := hxn _ (.tail _ (.head _))
  have e6 : ¬ @Eq Nat dx p := hdn _ (.head _)
  have e7 : ¬ @Eq Nat dx (L + 1) := hdn _ (.tail _ (.head _))
  have e8 : ¬ @Eq Nat kp p := hkn _ (.head _)
  have e9 : ¬ @Eq Nat kp (L + 1) := hkn _ (.tail _ (.head _))
  clear hx hxk hdk hxn hdn hkn
  dsimp only
  k_steps
  all_goals (try exact trivial)
  k_sweep
  refine cl_execsC ?_
  refine cl_Expr ?_
  refine cl_evalMeth ?_
  k_steps
  dsimp only
  refine cl_args (P := (Mine.hd.heap_39 w.params).In) (keeps_K (by k_dflt k_is)) ?_
  k_steps
  refine' h_callC (c_feed w _ _ _ x dx ln kp g1 g2 g3 g4 k1 k2 k3 k4 v1 v4 _ sd 0 #[] _ rfl ?zb e1 e2 e3) ?cB ?cF ?cX ?cN ?cT ?hS ?ch ?cA ?cf ?ck ?cd ?cu ?_
  walk_at "my sides"
  case zb => (show 0 + _ < 32; have := KBc.size_picked_le tb none (some c); omega)
  case hS => walk_at "my sels"
  intro r' n' h2 tk2 F2 N2 cr hp2
  obtain ⟨rfl, kp2, t42, hx2, hd2, rfl⟩ := hp2
  have f1 : ¬ @Eq Nat x kp2 := hx2
  have f2 : ¬ @Eq Nat dx kp2 := hd2
  have f3 : ¬ @Eq Nat kp2 p := cr _ (.tail _ (.tail _ (.head _))) _ (.head _)
  have f4 : ¬ @Eq Nat kp2 (L + 1) := cr _ (.tail _ (.tail _ (.head _))) _ (.tail _ (.head _))
  clear cr hx2 hd2
  rw [Array.empty_append] at N2
  try simp only [List.cons_append, List.nil_append] at N2
  refine ⟨rfl, ?_⟩
  try dsimp only
  k_sweep
  clear e2 e3 e8 e9
  refine cl_execsC ?_
  refine cl_Expr ?_
  refine cl_evalMeth ?_
  k_steps
  try dsimp only
  refine cl_args (P := (Mine.hd.heap_39 w.params).In) (keeps_K (by k_dflt k_is)) ?_
  k_steps
  refine' h_callC (c_feed w _ _ _ x dx ln kp2 g1 g2 g3 g4 k1 k2 k3 k4 v1 t42 _ sd ((KBy.picked tb none (some c)).size : Int) (KBy.picked tb none (some c)) _ rfl ?zb e1 f1 f2) ?cB ?cF ?cX ?cN ?cT ?hS ?ch ?cA ?cf ?ck ?cd ?cu ?_
  walk_at "my sides"
  case zb => (rw [← Array.size_append, split_b]; exact hsz)
  case hS => walk_at "my sels"
  intro r' n' h3 tk3 F3 N3 cr hp3
  obtain ⟨rfl, kp3, t43, hx3, hd3, rfl⟩ := hp3
  have q1 : ¬ @Eq Nat x kp3 := hx3
  have q2 : ¬ @Eq Nat dx kp3 := hd3
  have q3 : ¬ @Eq Nat kp3 p := cr _ (.tail _ (.tail _ (.head _))) _ (.head _)
  have q4 : ¬ @Eq Nat kp3 (L + 1) := cr _ (.tail _ (.tail _ (.head _))) _ (.tail _ (.head _))
  clear cr hx3 hd3
  rw [split_b] at N3
  try simp only [List.cons_append, List.nil_append] at N3
  refine ⟨rfl, ?_⟩
  try dsimp only
  k_sweep
  unfold LawAt at next
  with_reducible refine' next _ _ _ _ _ _ _ _ _ _ _ _ _ _ _ _ ?nF ?nN ?n3 ?n4
  case nF => assumption
  case nN => exact news_sub (by assumption) (by walk_at "my sub")
  case n3 => exact ⟨e1, q1, q2⟩
  case n4 => exact ⟨e4, e5, e6, e7, q3, q4⟩
end
section
set_option maxHeartbeats 400000 in
theorem law_F {w : World} {mean mg mb} {name qual : Str} {params : Arguments} {body : List Stmt} {scope : Scope} {dV kV doc pm cdv ct oc : Value} {an od : Option Addr} {osl : Array (Option Value)}
    (ho : (Mine.hd.heap_39 w.params).lookup 172 = some ⟨oc, od, .func (fnOf name qual params body scope dV kV doc pm an cdv ct), osl⟩)
    {dp un : Nat} {gd : Option (List Code)} {s : Shared} {Q : Value → Shared → Prop} (X : (Mine.hd.heap_39 w.params).In s.heap) (T : TopM mean mg mb s.heap) (hd : dp + 8 < recursionLimit) (hu : un + 64 < cLine)
    {L : Addr} {h : Heap} {tk : Nat} {m : Str → Option Value} {o' po : Obj} {p x dx ln kp : Addr} {g1 g2 g3 g4 : Int} {k1 k2 k3 k4 v1 v4 : Tok} {sd : B} {z : Int} {tb ba bt bp : Array UInt8} {tf ts ta tz tt tp : Tok}
    (F : Fr s.heap L h (fun n => if n = Str.ofString "coder" then some (.ref x) else if n = Str.ofString "found" then some (.int (I (hashB sd (KBw.bInts tb))) tf) else if n = Str.ofString "seed" then some (.int (I sd) ts) else if n = Str.ofString "ahead" then some (.bytes ba ta) else if n = Str.ofString "size" then some (.int z tz) else if n = Str.ofString "tail" then some (.bytes bt tt) else if n = Str.ofString "part" then some (.bytes bp tp) else m n))
    (N : News s.heap L h [(x, instObj 74 dx), (dx, dictOf [⟨g1, .str (Str.ofString "seed") k1, .int (I sd) v1⟩, ⟨g2, .str (Str.ofString "lanes") k2, .ref ln⟩, ⟨g3, .str (Str.ofString "kept") k3, .ref kp⟩, ⟨g4, .str (Str.ofString "count") k4, .int (tb.size : Int) v4⟩] 4), (kp, baOf tb), (p, po), (L + 1, o')]) (hx : x ≠ dx ∧ x ≠ kp ∧ dx ≠ kp) (hy : x ≠ p ∧ x ≠ L + 1 ∧ dx ≠ p ∧ dx ≠ L + 1 ∧ kp ≠ p ∧ kp ≠ L + 1)
    (hp : p ≠ L + 1) (hsz : tb.size < 32) (ha : ba.size = 0 ∨ ba.size = 8) (hb : bt.size ≤ 100) (hz : z = 8 ∨ z = 4 ∨ z = 1) (hbp : bp.size ≤ 100)
    (hnum : I (numB (hashB sd (KBw.bInts tb)) sd (KBw.bInts ba) z.toNat (KBw.bInts bt)) = low (KBw.bInts bp)) :
    (∀ h' tk', Fr s.heap L h' (fun n => if n = Str.ofString "coder" then some (.ref x) else if n = Str.ofString "found" then some (.int (I (hashB sd (KBw.bInts tb))) tf) else if n = Str.ofString "seed" then some (.int (I sd) ts) else if n = Str.ofString "ahead" then some (.bytes ba ta) else if n = Str.ofString "size" then some (.int z tz) else if n = Str.ofString "tail" then some (.bytes bt tt) else if n = Str.ofString "part" then some (.bytes bp tp) else m n) →
      News s.heap L h' [(p, po), (L + 1, o')] → LawAt w s L Q dp un gd qual scope cdv (body.drop 12) h' tk') →
    LawAt w s L Q dp un gd qual scope cdv (body.drop 11) h tk := by
  have hBel : Below (arnd dp un gd []) s.heap [] s.heap := ⟨rfl, fun _ _ e => e, trivial⟩
  have hdr := room1 hd
  have hur := room3 hu
  refine' two_looks ho ?h2 ?_ (G := fun qual body scope cdv => (∀ h' tk', Fr s.heap L h' (fun n => if n = Str.ofString "coder" then some (.ref x) else if n = Str.ofString "found" then some (.int (I (hashB sd (KBw.bInts tb))) tf) else if n = Str.ofString "seed" then some (.int (I sd) ts) else if n = Str.ofString "ahead" then some (.bytes ba ta) else if n = Str.ofString "size" then some (.int z tz) else if n = Str.ofString "tail" then some (.bytes bt tt) else if n = Str.ofString "part" then some (.bytes bp tp) else m n) →
      News s.heap L h' [(p, po), (L + 1, o')] → LawAt w s L Q dp un gd qual scope cdv (body.drop 12) h' tk') →
    LawAt w s L Q dp un gd qual scope cdv (body.drop 11) h tk)
  case h2 => k_dflt k_is
  k_whole
  intro next
  dsimp only [List.drop] at next ⊢
  unfold LawAt
  have hpc2 : ¬ @Eq Nat p (L + 1) := hp
  have h0 := I_nn sd
  have h1 := I_lt sd
  obtain ⟨e1, e2, e3⟩ := hx
  obtain ⟨e4, e5, e6, e7, e8, e9⟩ := hy
  have e1 : ¬ @Eq Nat x dx := e1
  have e2 : ¬ @Eq Nat x kp := e2
  have e3 : ¬ @Eq Nat dx kp := e3
  have e4 : ¬ @Eq Nat x p := e4
  have e5 : ¬ @Eq Nat x (L + 1) := e5
  have e6 : ¬ @Eq Nat dx p := e6
  have e7 : ¬ @Eq Nat dx (L + 1) := e7
  have e8 : ¬ @Eq Nat kp p := e8
  have e9 : ¬ @Eq Nat kp (L + 1) := e9
  refine cl_execs ?_
  k_steps
  try dsimp only [List.cons_append, List.nil_append]
  k_here
  refine' h_callS (c_value w _ _ _ x dx ln kp g1 g2 g3 g4 k1 k2 k3 k4 v1 v4 sd (tb.size : Int) tb rfl hsz e1 e2 e3) ?cB ?cF ?cX ?cN ?cT ?hS ?ch ?cA ?cf ?ck ?cd ?cu ?_
  walk_at "my sides"
  case hS => walk_at "my sels"
  walk_at "my same"
  k_steps
  all_goals (try (exfalso; with_reducible exact absurd rfl ‹I (hashB sd (KBw.bInts tb)) ≠ I (hashB sd (KBw.bInts tb))›))
  k_here
  refine' h_call0 (c_lawnumber w _ _ _ _ _ _ (hashB sd (KBw.bInts tb)) sd ba bt _ _ _ _ _ rfl rfl ha hb hz) ?cB ?cF ?cX ?cN ?cT ?ch ?cA ?cf ?ck ?cd ?cu ?_
  walk_at "my sides"
  walk_at "my nil"
  k_steps
  all_goals (try (exfalso; with_reducible exact absurd hnum (by assumption)))
  all_goals (try exact trivial)
  all_goals trace_state
  k_sweep
  unfold LawAt at next
  with_reducible refine' next _ _ ?nF ?nN
  case nF => assumption
  case nN => exact news_sub (by assumption) (by walk_at "my sub")
end
section
theorem bInts_toList (b : Array UInt8) : KBw.bInts b = b.toList.map fun c => (c.toNat : Int) := rfl
theorem clip_a {n : Nat} {a : Int} (a0 : 0 ≤ a) (a1 : a < n) : clipAt n a = a.toNat := by
  have h := clipAt_nat n a.toNat
  rw [Int.toNat_of_nonneg a0] at h
  rw [h, Nat.min_eq_left (Int.toNat_le.mpr (Int.le_of_lt a1))]
theorem clip_b {n : Nat} {a : Int} (a0 : 0 ≤ a) (a1 : a < n) : clipAt n (a + 1) = a.toNat + 1 := by
  have h := clipAt_nat n (a.toNat + 1)
  rw [Int.natCast_add, Int.toNat_of_nonneg a0] at h
  exact h.trans (Nat.min_eq_left (Nat.succ_le_of_lt ((Int.toNat_lt a0).mpr a1)))
theorem other_v {x r v : Int} (hx : 0 ≤ x ∧ x < 256) (r0 : 0 ≤ r) (r1 : r < 255) (hv : (x + 1 + r).fmod 256 = v) : v ≠ x ∧ 0 ≤ v ∧ v < 256 := by
  rw [← hv, Int.fmod_eq_emod_of_nonneg _ (by decide)]
  omega
theorem u8_back {v : Int} (h : 0 ≤ v ∧ v < 256) : ((v.toNat.toUInt8).toNat : Int) = v := by
  rw [Nat.toUInt8, UInt8.toNat_ofNat', Nat.mod_eq_of_lt ((Int.toNat_lt h.1).mpr h.2), Int.toNat_of_nonneg h.1]
theorem mid_get {l : List UInt8} {k : Nat} {c : UInt8} {r : List UInt8} (h : k < l.length) : ((l.take k ++ [c] ++ r).map fun c => (c.toNat : Int)).getD k 0 = (c.toNat : Int) := by
  have e : (l.take k).length = k := by rw [List.length_take, Nat.min_eq_left (Nat.le_of_lt h)]
  rw [List.append_assoc, List.map_append, List.getD_eq_getElem?_getD, List.getElem?_append_right (by rw [List.length_map, e]; exact Nat.le_refl _), List.length_map, e, Nat.sub_self]
  rfl
theorem other_b {bp : Array UInt8} {a r : Int} (a0 : 0 ≤ a) (a1 : a < bp.size) (r0 : 0 ≤ r) (r1 : r < 255) :
    (KBy.picked bp none (some a) ++ #[(((KBw.bInts bp).getD a.toNat 0 + 1 + r).fmod 256).toNat.toUInt8] ++ KBy.picked bp (some (a + 1)) none).size = bp.size ∧
    KBw.bInts (KBy.picked bp none (some a) ++ #[(((KBw.bInts bp).getD a.toNat 0 + 1 + r).fmod 256).toNat.toUInt8] ++ KBy.picked bp (some (a + 1)) none) ≠ KBw.bInts bp := by
  generalize hv : ((KBw.bInts bp).getD a.toNat 0 + 1 + r).fmod 256 = v
  have hx := KBw.getD_in (ks := KBw.bInts bp) (j := a.toNat) fun k hk => KBw.ints_in hk
  have hv' := other_v hx r0 r1 hv
  have hk : a.toNat < bp.toList.length := by rw [Array.length_toList]; exact (Int.toNat_lt a0).mpr a1
  rw [KBc.picked_eq, KBc.picked_eq]
  simp only [Option.elim, List.drop_zero, Nat.sub_zero, clip_a a0 a1, clip_b a0 a1]
  clear hv hx
  generalize a.toNat = k at hk hv' ⊢
  constructor
  · rw [← Array.length_toList, Array.toList_append, Array.toList_append, List.length_append, List.length_append, List.length_take, List.length_take, List.length_drop, Array.length_toList]
    rw [Array.length_toList] at hk
    rw [Nat.min_eq_left (Nat.le_of_lt hk), Nat.min_self]
    exact Nat.add_sub_cancel' (Nat.succ_le_of_lt hk)
  · intro e
    have q := congrArg (fun l => l.getD k 0) e
    simp only [bInts_toList] at q hv'
    rw [Array.toList_append, Array.toList_append] at q
    exact hv'.1 ((u8_back hv'.2).symm.trans ((mid_get hk).symm.trans q))
set_option maxHeartbeats 400000 in
theorem law_G {w : World} {mean mg mb} {name qual : Str} {params : Arguments} {body : List Stmt} {scope : Scope} {dV kV doc pm cdv ct oc : Value} {an od : Option Addr} {osl : Array (Option Value)}
    (ho : (Mine.hd.heap_39 w.params).lookup 172 = some ⟨oc, od, .func (fnOf name qual params body scope dV kV doc pm an cdv ct), osl⟩)
    {dp un : Nat} {gd : Option (List Code)} {s : Shared} {Q : Value → Shared → Prop} (X : (Mine.hd.heap_39 w.params).In s.heap) (T : TopM mean mg mb s.heap) (hd : dp + 8 < recursionLimit) (hu : un + 64 < cLine)
    {L : Addr} {h : Heap} {tk : Nat} {m : Str → Option Value} {o' : Obj} {p : Addr} {x0 : Int} {u0 : Tok} {n0 : Nat} {sd : B} {z : Int} {ba bt bp : Array UInt8} {tf ts ta tz tt tp : Tok}
    (F : Fr s.heap L h (fun n => if n = Str.ofString "purse" then some (.ref p) else if n = Str.ofString "size" then some (.int z tz) else if n = Str.ofString "part" then some (.bytes bp tp) else if n = Str.ofString "ahead" then some (.bytes ba ta) else if n = Str.ofString "tail" then some (.bytes bt tt) else if n = Str.ofString "seed" then some (.int (I sd) ts) else if n = Str.ofString "found" then some (.int (I (hashB sd (KBw.bInts (ba ++ bp ++ bt)))) tf) else m n))
    (N : News s.heap L h [(p, listOf #[.int x0 u0] n0), (L + 1, o')]) (hp : p ≠ L + 1) (x00 : 0 ≤ x0) (x01 : x0 < 2 ^ 420) (hz0 : 0 < z) (hz1 : z = (bp.size : Int)) (hsz : ba.size + bp.size + bt.size < 32) :
    (∀ h' tk' m' bo to x1 u1, Fr s.heap L h' m' → (m' (Str.ofString "other") = some (.bytes bo to) ∧ m' (Str.ofString "purse") = some (.ref p) ∧ m' (Str.ofString "ahead") = some (.bytes ba ta) ∧ m' (Str.ofString "tail") = some (.bytes bt tt) ∧ m' (Str.ofString "seed") = some (.int (I sd) ts) ∧ m' (Str.ofString "found") = some (.int (I (hashB sd (KBw.bInts (ba ++ bp ++ bt)))) tf)) →
      News s.heap L h' [(p, listOf #[.int x1 u1] n0), (L + 1, o')] → 0 ≤ x1 → x1 < 2 ^ 420 → (bo.size = bp.size ∧ KBw.bInts bo ≠ KBw.bInts bp) → LawAt w s L Q dp un gd qual scope cdv (body.drop 14) h' tk') →
    LawAt w s L Q dp un gd qual scope cdv (body.drop 12) h tk := by
  have hBel : Below (arnd dp un gd []) s.heap [] s.heap := ⟨rfl, fun _ _ e => e, trivial⟩
  have hdr := room1 hd
  have hur := room3 hu
  refine' two_looks ho ?h2 ?_ (G := fun qual body scope cdv => (∀ h' tk' m' bo to x1 u1, Fr s.heap L h' m' → (m' (Str.ofString "other") = some (.bytes bo to) ∧ m' (Str.ofString "purse") = some (.ref p) ∧ m' (Str.ofString "ahead") = some (.bytes ba ta) ∧ m' (Str.ofString "tail") = some (.bytes bt tt) ∧ m' (Str.ofString "seed") = some (.int (I sd) ts) ∧ m' (Str.ofString "found") = some (.int (I (hashB sd (KBw.bInts (ba ++ bp ++ bt)))) tf)) →
      News s.heap L h' [(p, listOf #[.int x1 u1] n0), (L + 1, o')] → 0 ≤ x1 → x1 < 2 ^ 420 → (bo.size = bp.size ∧ KBw.bInts bo ≠ KBw.bInts bp) → LawAt w s L Q dp un gd qual scope cdv (body.drop 14) h' tk') →
    LawAt w s L Q dp un gd qual scope cdv (body.drop 12) h tk)
  case h2 => k_dflt k_is
  k_whole
  intro next
  dsimp only [List.drop] at next ⊢
  unfold LawAt
  have hpc2 : ¬ @Eq Nat p (L + 1) := hp
  have h0 := I_nn sd
  have h1 := I_lt sd
  have hsp := KBw.ints_length bp
  refine cl_execs ?_
  k_steps
  all_goals (try exact trivial)
  k_sweep
  refine cl_execs ?_
  k_steps
  all_goals (try exact trivial)
  k_sweep
  unfold LawAt at next
  with_reducible refine' next _ _ _ _ _ _ _ ?nF ?nR ?nN ?n3 ?n4 ?n5
  case nF => assumption
  case nR => exact ⟨by with_unfolding_all rfl, by with_unfolding_all rfl, by with_unfolding_all rfl, by with_unfolding_all rfl, by with_unfolding_all rfl, by with_unfolding_all rfl⟩
  case nN => exact news_sub (by assumption) (by walk_at "my sub")
  case n3 => k_asm
  case n4 => k_asm
  case n5 => exact other_b (by assumption) (by omega) (by assumption) (by assumption)
end
section
set_option maxHeartbeats 400000 in
theorem law_H {w : World} {mean mg mb} {name qual : Str} {params : Arguments} {body : List Stmt} {scope : Scope} {dV kV doc pm cdv ct oc : Value} {an od : Option Addr} {osl : Array (Option Value)}
    (ho : (Mine.hd.heap_39 w.params).lookup 172 = some ⟨oc, od, .func (fnOf name qual params body scope dV kV doc pm an cdv ct), osl⟩)
    {dp un : Nat} {gd : Option (List Code)} {s : Shared} {Q : Value → Shared → Prop} (X : (Mine.hd.heap_39 w.params).In s.heap) (T : TopM mean mg mb s.heap) (hd : dp + 8 < recursionLimit) (hu : un + 64 < cLine)
    {L : Addr} {h : Heap} {tk : Nat} {m : Str → Option Value} {o' po : Obj} {p : Addr} {sd fd : B} {ba bt bo : Array UInt8} {tf ts ta tt to : Tok}
    (F : Fr s.heap L h (fun n => if n = Str.ofString "other" then some (.bytes bo to) else if n = Str.ofString "ahead" then some (.bytes ba ta) else if n = Str.ofString "tail" then some (.bytes bt tt) else if n = Str.ofString "seed" then some (.int (I sd) ts) else if n = Str.ofString "found" then some (.int (I fd) tf) else m n))
    (N : News s.heap L h [(p, po), (L + 1, o')]) (hsz : ba.size + bo.size + bt.size < 32) (hne : I (hashB sd (KBw.bInts (ba ++ bo ++ bt))) ≠ I fd) :
    (∀ h' tk', Fr s.heap L h' (fun n => if n = Str.ofString "other" then some (.bytes bo to) else if n = Str.ofString "ahead" then some (.bytes ba ta) else if n = Str.ofString "tail" then some (.bytes bt tt) else if n = Str.ofString "seed" then some (.int (I sd) ts) else if n = Str.ofString "found" then some (.int (I fd) tf) else m n) → News s.heap L h' [(p, po), (L + 1, o')] → LawAt w s L Q dp un gd qual scope cdv (body.drop 15) h' tk') →
    LawAt w s L Q dp un gd qual scope cdv (body.drop 14) h tk := by
  have hBel : Below (arnd dp un gd []) s.heap [] s.heap := ⟨rfl, fun _ _ e => e, trivial⟩
  have hdr := room1 hd
  have hur := room3 hu
  refine' two_looks ho ?h2 ?_ (G := fun qual body scope cdv => (∀ h' tk', Fr s.heap L h' (fun n => if n = Str.ofString "other" then some (.bytes bo to) else if n = Str.ofString "ahead" then some (.bytes ba ta) else if n = Str.ofString "tail" then some (.bytes bt tt) else if n = Str.ofString "seed" then some (.int (I sd) ts) else if n = Str.ofString "found" then some (.int (I fd) tf) else m n) → News s.heap L h' [(p, po), (L + 1, o')] → LawAt w s L Q dp un gd qual scope cdv (body.drop 15) h' tk') →
    LawAt w s L Q dp un gd qual scope cdv (body.drop 14) h tk)
  case h2 => k_dflt k_is
  k_whole
  intro next
  dsimp only [List.drop] at next ⊢
  unfold LawAt
  have h0 := I_nn sd
  have h1 := I_lt sd
  have hsT : (ba ++ bo ++ bt).size = ba.size + bo.size + bt.size := by rw [Array.size_append, Array.size_append]
  have hsA : (ba ++ bo).size = ba.size + bo.size := by rw [Array.size_append]
  refine cl_execsC ?_
  refine cl_If ?_
  refine cl_isTrue_Compare1 ?_
  refine cl_evalCall ?_
  k_steps
  refine cl_args (P := (Mine.hd.heap_39 w.params).In) (keeps_K (by k_dflt k_is)) ?_
  k_steps
  refine' h_callC0 (c_xxh64 w _ _ _ sd _ _ _ _ rfl ?zb) ?cB ?cF ?cX ?cN ?cT ?ch ?cA ?cf ?ck ?cd ?cu ?_
  walk_at "my sides"
  case zb => omega
  walk_at "my nil"
  k_steps
  · exfalso; with_reducible exact absurd ‹I (hashB sd (KBw.bInts (ba ++ bo ++ bt))) = I fd› hne
  refine cl_execs_nil ?_
  dsimp only
  k_sweep
  unfold LawAt at next
  with_reducible refine' next _ _ ?nF ?nN
  case nF => assumption
  case nN => assumption
end
section
theorem pow_256 {i : Nat} (h : i ≤ 8) : (256 : Int) ^ i ≤ 2 ^ 64 := by
  have := Nat.pow_le_pow_right (n := 256) (by decide) h
  rw [show (256 : Int) ^ i = ((256 ^ i : Nat) : Int) by rw [Int.natCast_pow]; rfl, show (2 : Int) ^ 64 = ((256 ^ 8 : Nat) : Int) by decide]
  exact Int.ofNat_le.mpr this
theorem ints_snoc {n : Int} {t : Tok} : ∀ {ys : List Value} {ns : List Int}, IntsAre ys ns → IntsAre (ys ++ [Value.int n t]) (ns ++ [n])
  | _, _, .nil => .cons n t .nil
  | _, _, .cons k u r => .cons k u (ints_snoc r)
theorem bInts_app (a b : Array UInt8) : KBw.bInts (a ++ b) = KBw.bInts a ++ KBw.bInts b := KBw.ints_app rfl rfl
theorem octs_map (z : Int) (h : 0 ≤ z) : (List.range 8).map (fun k : Nat => (z.fdiv (256 ^ (0 + (k : Int)).toNat)).fmod 256) = octs z 8 := by
  refine List.ext_getElem? fun j => ?_
  by_cases hj : j < 8
  · rw [octs_get _ _ _ hj, List.getElem?_map, List.getElem?_range hj, Option.map_some, Int.zero_add, Int.toNat_natCast, Int.fdiv_eq_ediv_of_nonneg _ (Int.le_of_lt (Int.pow_pos (by decide))), Int.fmod_eq_emod_of_nonneg _ (by decide)]
  · rw [List.getElem?_eq_none (by rw [List.length_map, List.length_range]; omega), List.getElem?_eq_none (by rw [octs_len]; omega)]
/-- an int that a comprehension's element comes to -/
def EndI (s : Shared) (g : Heap) (L : Addr) (m : Str → Option Value) (news : Led) (v : Int) (y : Value) (s₂ : Shared) : Prop := ∃ t h' tk', y = .int v t ∧ s₂ = { s with heap := h', toks := tk' } ∧ Fr g L h' m ∧ News g L h' news
theorem EndI.mk {s : Shared} {g : Heap} {L : Addr} {m : Str → Option Value} {news : Led} {v : Int} {y : Value} {s₂ : Shared} {t : Tok} {h' : Heap} {tk' : Nat} (e1 : y = .int v t) (e2 : s₂ = { s with heap := h', toks := tk' }) (F : Fr g L h' m) (N : News g L h' news) : EndI s g L m news v y s₂ := ⟨t, h', tk', e1, e2, F, N⟩
section
open PyProof.Rows.LCg
variable {prog : Program} {w : World} {A : Around} {s : Shared} {h₀ : Heap} {L : Addr} {m : Str → Option Value} {env : Env}
theorem comp_map {elt : Expr} {x : Str} {scope : Scope} {cl : List (Str × Addr)} {S : List (Addr × Obj) → Prop} {P : Nat → Value → Prop} {Fin : List Value → List (Addr × Obj) → Prop} {f : Nat → Int} {news : Led} (n : Nat) (hS : S news)
    (fin : ∀ ys, IntsAre ys ((List.range n).map f) → Fin ys news)
    (step : ∀ i ys, i < n → ∀ v I oI C oC D m₂ h tk (E' : Value → Shared → Prop), P i v → NsObj oC m₂ → m₂ x = some v → Fr h₀ L h m → News h₀ L h ((I, oI) :: (C, oC) :: (D, lst ys) :: news) → Off3 I C D news → ((@Ne Nat I C) ∧ (@Ne Nat I D) ∧ (@Ne Nat C D)) →
      wpAny (model prog w) A (eval elt (compEnvC scope cl C env)) (fun y s₂ => EndI s h₀ L m ((I, oI) :: (C, oC) :: (D, lst ys) :: news) (f i) y s₂) E' { s with heap := h, toks := tk }) :
    CompRest prog w A h₀ L m env elt x scope cl s S P Fin n 0 [] news := by
  refine comp_ind n (fun i ys nx => IntsAre ys ((List.range i).map f) ∧ nx = news) (fun ys nx ⟨h, e⟩ => by subst e; exact fin ys h) ?_ n 0 [] news (Nat.zero_add _) ⟨.nil, rfl⟩
  rintro i ys nx hi ⟨hy, rfl⟩ v I oI C oC D m₂ h tk E' hP hN hm F N off ne
  refine wpAny_mono (step i ys hi v I oI C oC D m₂ h tk E' hP hN hm F N off ne) (fun y s₂ q => ?_) fun _ _ e => e
  obtain ⟨t, h', tk', rfl, rfl, F', N'⟩ := q
  refine ⟨h', tk', nx, rfl, F', N', off, hS, ?_, rfl⟩
  rw [List.range_succ, List.map_append]
  exact ints_snoc hy
end
set_option maxHeartbeats 400000 in
theorem law_I {w : World} {mean mg mb} {name qual : Str} {params : Arguments} {body : List Stmt} {scope : Scope} {dV kV doc pm cdv ct oc : Value} {an od : Option Addr} {osl : Array (Option Value)}
    (ho : (Mine.hd.heap_39 w.params).lookup 172 = some ⟨oc, od, .func (fnOf name qual params body scope dV kV doc pm an cdv ct), osl⟩)
    {dp un : Nat} {gd : Option (List Code)} {s : Shared} {Q : Value → Shared → Prop} (X : (Mine.hd.heap_39 w.params).In s.heap) (T : TopM mean mg mb s.heap) (hd : dp + 8 < recursionLimit) (hu : un + 64 < cLine)
    {L : Addr} {h : Heap} {tk : Nat} {m : Str → Option Value} {o' : Obj} {p : Addr} {x0 : Int} {u0 : Tok} {n0 : Nat} {sd : B} {ba bt : Array UInt8} {ts ta tt : Tok}
    (F : Fr s.heap L h (fun n => if n = Str.ofString "purse" then some (.ref p) else if n = Str.ofString "ahead" then some (.bytes ba ta) else if n = Str.ofString "tail" then some (.bytes bt tt) else if n = Str.ofString "seed" then some (.int (I sd) ts) else m n))
    (N : News s.heap L h [(p, listOf #[.int x0 u0] n0), (L + 1, o')]) (hp : p ≠ L + 1) (x00 : 0 ≤ x0) (x01 : x0 < 2 ^ 420) (d1 : o'.data = Data.cell none) (ha : ba.size = 0 ∨ ba.size = 8) (hb : bt.size < 8) :
    (∀ h' tk', (∀ b o, s.heap.get? b = some o → h'.get? b = some o) → Q (.bool true) { s with heap := h', toks := tk' }) →
    LawAt w s L Q dp un gd qual scope cdv (body.drop 15) h tk := by
  have hBel : Below (arnd dp un gd []) s.heap [] s.heap := ⟨rfl, fun _ _ e => e, trivial⟩
  have hdr := room1 hd
  have hur := room3 hu
  refine' two_looks ho ?h2 ?_ (G := fun qual body scope cdv => (∀ h' tk', (∀ b o, s.heap.get? b = some o → h'.get? b = some o) → Q (.bool true) { s with heap := h', toks := tk' }) →
    LawAt w s L Q dp un gd qual scope cdv (body.drop 15) h tk)
  case h2 => k_dflt k_is
  k_whole
  intro next
  dsimp only [List.drop]
  unfold LawAt
  have hpc2 : ¬ @Eq Nat p (L + 1) := hp
  have h0 := I_nn sd
  have h1 := I_lt sd
  refine cl_execs ?_
  k_steps
  all_goals (try exact trivial)
  k_sweep
  have edw : dw = I (BitVec.ofInt 64 dw) := I_of dw0 dw1
  generalize BitVec.ofInt 64 dw = gb at edw
  subst edw
  clear dw0 dw1
  refine cl_execs ?_
  k_steps
  k_here
  refine' h_call0 (c_lawnumber w _ _ _ _ _ 8 gb sd ba bt _ _ _ _ _ rfl rfl ha ?hb (.inl rfl)) ?cB ?cF ?cX ?cN ?cT ?ch ?cA ?cf ?ck ?cd ?cu ?_
  walk_at "my sides"
  case hb => omega
  walk_at "my nil"
  k_steps
  all_goals (try exact trivial)
  k_sweep
  rename (_ : Obj).data = Data.cell (some _) => dc
  generalize hxb : numB gb sd (KBw.bInts ba) (Int.toNat 8) (KBw.bInts bt) = xb at dc
  refine cl_execsC ?_
  refine cl_Return ?_
  refine cl_Compare1 ?_
  refine cl_evalCall ?_
  k_steps
  refine cl_args (P := (Mine.hd.heap_39 w.params).In) (keeps_K (by k_dflt k_is)) ?_
  iterate 15 (walk1; (try dsimp only))
  k_here
  rename Fr _ _ _ _ => Fz
  rename News _ _ _ _ => Nz
  refine call_range_1 ?_
  refine LCg.CompSrc.range (n := 8) rfl (Fz.push _) (News.pushKeep Nz _) (IsRange.new _ _ _ _ _ _ _) (small_one (by omega) (by omega) (by omega) (by omega)) (by decide) (by rw [sizeLine_eq]; omega) (fun g' => ?_)
  have hxn := I_nn xb
  refine comp_map (f := fun k => ((I xb).fdiv (256 ^ (0 + (k : Int)).toNat)).fmod 256) 8 trivial ?fin ?step
  case fin =>
    intro ys hys
    rw [octs_map _ hxn] at hys
    intro D h tk' F3 N3 off3
    dsimp only
    walk1
    (try dsimp only)
    refine KBa.make_K F3 N3 rfl ⟨_, (N3 _ (.head _)).1, rfl, _, rfl⟩ hys (octs_oct _ _) (by rw [octs_len]; decide) ?_
    intro h2 t3 k3 F4 N4 _
    have hbs : (byteArr (octs (I xb) 8)).size = 8 := by rw [byteArr_size, octs_len]
    have hsA : (ba ++ byteArr (octs (I xb) 8)).size = ba.size + 8 := by rw [Array.size_append, hbs]
    have hsT : (ba ++ byteArr (octs (I xb) 8) ++ bt).size = ba.size + 8 + bt.size := by rw [Array.size_append, hsA]
    have hgb : hashB sd (KBw.bInts (ba ++ byteArr (octs (I xb) 8) ++ bt)) = gb := by
      rw [bInts_app, bInts_app, KBa.ints_make (octs_oct _ _)]
      refine hash_8 (by rw [KBw.ints_length]; exact ha) (octs_len _ _) (by rw [KBw.ints_length]; exact hb) ?_
      rw [low_octs _ _ hxn (by rw [show (256 : Int) ^ 8 = 18446744073709551616 by decide]; exact I_lt xb), ofInt_I, ← hxb]
      rfl
    clear hxb
    k_sweep
    (try dsimp only)
    k_steps
    refine' h_callC (c_xxh64 w _ _ _ sd _ _ _ _ rfl ?zb) ?cB ?cF ?cX ?cN ?cT Sels.nil ?ch ?cA ?cf ?ck ?cd ?cu ?_
    walk_at "my sides"
    case zb => omega
    intro rw2 nw2 hw2 tkw2 Fw2 Nw2 crw2 hpw2
    obtain ⟨hnw2, tw2, hrw2⟩ := hpw2
    rw [hgb] at hrw2
    subst hnw2 hrw2
    clear crw2
    simp only [List.nil_append] at Nw2
    (try dsimp only)
    (try k_fold)
    k_steps
    rw [beq_self_eq_true]
    exact next _ _ (Fr.keep (by assumption))
  case step =>
    intro i ys hi v I' oI C oC D m₂ h tk' E' hv hNs hm2 F3 N3 off3 ne3
    obtain ⟨tv, rfl⟩ := hv
    obtain ⟨⟨q1, q2, q3⟩, ⟨q4, q5, q6⟩, _⟩ := off3
    dsimp only at q1 q2 q3 q4 q5 q6
    obtain ⟨q7, q8, q9⟩ := ne3
    have e0 : (0 + (i : Int)).toNat = i := by rw [Int.zero_add]; rfl
    have hp0 : (0 : Int) < 256 ^ (0 + (i : Int)).toNat := Int.pow_pos (by decide)
    have hp1 : (256 : Int) ^ (0 + (i : Int)).toNat ≤ 2 ^ 64 := by
      rw [e0]
      exact pow_256 (Nat.le_of_lt hi)
    k_with "binaryOp FloorDiv int int" => (k_here; (with_reducible refine floordiv_int (by omega) ?_ (Or.inl (PyProof.noPylong_of_log2 (log_64 (by k_asm) (by k_asm))))))
    k_steps
    (try dsimp only)
    refine' EndI.mk ?w1 ?w2 ?w3 ?w4
    case w1 => exact rfl
    case w2 => with_reducible rfl
    case w3 => k_asm
    case w4 => k_asm
end
section
/-- the shapes that the law builds -/
def Shape (z : Int) (bp bt ba : Array UInt8) : Prop :=
  (z = 8 ∧ bp.size = 8 ∧ bt.size < 8 ∧ (ba.size = 0 ∨ ba.size = 8)) ∨ (z = 4 ∧ bp.size = 4 ∧ bt.size < 4 ∧ ba.size = 0) ∨ (z = 1 ∧ bp.size = 1 ∧ bt.size < 3 ∧ ba.size = 0)
theorem bInts_nil {b : Array UInt8} (h : b.size = 0) : KBw.bInts b = [] := List.eq_nil_of_length_eq_zero (by rw [KBw.ints_length, h])
theorem law_numB {z : Int} {sd : B} {bp bt ba : Array UInt8} (h : Shape z bp bt ba) :
    numB (hashB sd (KBw.bInts (ba ++ bp ++ bt))) sd (KBw.bInts ba) z.toNat (KBw.bInts bt) = BitVec.ofInt 64 (low (KBw.bInts bp)) := by
  have la := KBw.ints_length ba
  have lp := KBw.ints_length bp
  have lt := KBw.ints_length bt
  rw [bInts_app, bInts_app]
  rcases h with ⟨rfl, h1, h2, h3⟩ | ⟨rfl, h1, h2, h3⟩ | ⟨rfl, h1, h2, h3⟩
  · exact num_8 (by rw [la]; exact h3) (by rw [lp]; exact h1) (by rw [lt]; exact h2)
  · rw [bInts_nil h3]
    exact num_4 (by rw [lp]; exact h1) (by rw [lt]; exact h2)
  · rw [bInts_nil h3]
    exact num_1 (by rw [lp]; exact h1) (by rw [lt]; exact h2)
theorem Shape.le8 {z : Int} {bp bt ba : Array UInt8} (h : Shape z bp bt ba) : (KBw.bInts bp).length ≤ 8 := by
  rw [KBw.ints_length]
  rcases h with ⟨_, h1, _⟩ | ⟨_, h1, _⟩ | ⟨_, h1, _⟩ <;> (rw [h1]; decide)
theorem law_num {z : Int} {sd : B} {bp bt ba : Array UInt8} (h : Shape z bp bt ba) :
    I (numB (hashB sd (KBw.bInts (ba ++ bp ++ bt))) sd (KBw.bInts ba) z.toNat (KBw.bInts bt)) = low (KBw.bInts bp) := by
  rw [law_numB h, ← low_I (fun k hk => KBw.ints_in hk) h.le8]
theorem Shape.other {z : Int} {bp bo bt ba : Array UInt8} (h : Shape z bp bt ba) (e : bo.size = bp.size) : Shape z bo bt ba := by
  unfold Shape at h ⊢
  rw [e]; exact h
theorem law_ne {z : Int} {sd : B} {bp bo bt ba : Array UInt8} (h : Shape z bp bt ba) (e : bo.size = bp.size) (ne : KBw.bInts bo ≠ KBw.bInts bp) :
    I (hashB sd (KBw.bInts (ba ++ bo ++ bt))) ≠ I (hashB sd (KBw.bInts (ba ++ bp ++ bt))) := by
  intro q
  have q1 := congrArg (BitVec.ofInt 64) q
  rw [ofInt_I, ofInt_I] at q1
  have n1 := law_numB (sd := sd) (h.other e)
  rw [q1, law_numB h] at n1
  exact ne (low_B_inj (fun k hk => KBw.ints_in hk) (fun k hk => KBw.ints_in hk) (by rw [KBw.ints_length, KBw.ints_length, e]) (h.other e).le8 n1.symm)
theorem shape_ahead {d : Int} {n : Nat} (h4 : (n : Int) = 8 * (if (d == 4) = true then 1 else 0)) : (n = 0 ∨ n = 8) ∧ (d ≠ 4 → n = 0) := by
  by_cases hd : d = 4
  · rw [if_pos (by rw [hd]; rfl)] at h4
    exact ⟨.inr (by omega), fun h => absurd hd h⟩
  · rw [if_neg (by rw [beq_iff_eq]; exact hd)] at h4
    exact ⟨.inl (by omega), fun _ => by omega⟩
theorem nat_of {n : Nat} {z : Int} {k : Nat} (h1 : (n : Int) = z) (h2 : z = (k : Int)) : n = k := Int.ofNat.inj (h1.trans h2)
theorem nat_lt {n k : Nat} {dm y : Int} (h3 : (n : Int) = dm) (h2 : dm < y) (h : y ≤ (k : Int)) : n < k := Int.ofNat_lt.mp (h3 ▸ Int.lt_of_lt_of_le h2 h)
theorem shape_of {d z y dm : Int} {bp bt ba : Array UInt8} (hP : (z = 8 ∧ 0 < y ∧ y ≤ 8) ∨ (z = 4 ∧ 0 < y ∧ y ≤ 4 ∧ d ≠ 4) ∨ (z = 1 ∧ 0 < y ∧ y ≤ 3 ∧ d ≠ 4))
    (h1 : (bp.size : Int) = z) (h2 : dm < y) (h3 : (bt.size : Int) = dm) (h4 : (ba.size : Int) = 8 * (if (d == 4) = true then 1 else 0)) : Shape z bp bt ba := by
  obtain ⟨a1, a2⟩ := shape_ahead h4
  rcases hP with ⟨e, _, hy⟩ | ⟨e, _, hy, hd⟩ | ⟨e, _, hy, hd⟩
  · exact .inl ⟨e, nat_of h1 e, nat_lt h3 h2 hy, a1⟩
  · exact .inr (.inl ⟨e, nat_of h1 e, nat_lt h3 h2 hy, a2 hd⟩)
  · exact .inr (.inr ⟨e, nat_of h1 e, nat_lt h3 h2 hy, a2 hd⟩)
theorem sum_lt {a p t k : Nat} (h1 : a ≤ 8) (h2 : p ≤ 8) (h3 : t < k) (hk : k ≤ 8) : a + p + t < 32 :=
  Nat.lt_of_lt_of_le (Nat.add_lt_add_of_le_of_lt (Nat.add_le_add h1 h2) (Nat.lt_of_lt_of_le h3 hk)) (by decide)
theorem Shape.facts {z : Int} {bp bt ba : Array UInt8} (h : Shape z bp bt ba) : ba.size + bp.size + bt.size < 32 ∧ (ba.size = 0 ∨ ba.size = 8) ∧ bt.size < 8 ∧ bp.size ≤ 8 ∧ 0 < z ∧ z = (bp.size : Int) ∧ (z = 8 ∨ z = 4 ∨ z = 1) := by
  rcases h with ⟨rfl, h1, h2, h3⟩ | ⟨rfl, h1, h2, h3⟩ | ⟨rfl, h1, h2, h3⟩
  · exact ⟨sum_lt (by rcases h3 with h3 | h3 <;> rw [h3] <;> decide) (by rw [h1]; decide) h2 (by decide), h3, h2, by rw [h1]; decide, by decide, by rw [h1]; rfl, .inl rfl⟩
  · exact ⟨sum_lt (by rw [h3]; decide) (by rw [h1]; decide) h2 (by decide), .inl h3, Nat.lt_of_lt_of_le h2 (by decide), by rw [h1]; decide, by decide, by rw [h1]; rfl, .inr (.inl rfl)⟩
  · exact ⟨sum_lt (by rw [h3]; decide) (by rw [h1]; decide) h2 (by decide), .inl h3, Nat.lt_of_lt_of_le h2 (by decide), by rw [h1]; decide, by decide, by rw [h1]; rfl, .inr (.inr rfl)⟩
end
section
set_option maxHeartbeats 400000 in
theorem law_A {w : World} {mean mg mb} {name qual : Str} {params : Arguments} {body : List Stmt} {scope : Scope} {dV kV doc pm cdv ct oc : Value} {an od : Option Addr} {osl : Array (Option Value)}
    (ho : (Mine.hd.heap_39 w.params).lookup 172 = some ⟨oc, od, .func (fnOf name qual params body scope dV kV doc pm an cdv ct), osl⟩)
    {dp un : Nat} {gd : Option (List Code)} {s : Shared} {Q : Value → Shared → Prop} (X : (Mine.hd.heap_39 w.params).In s.heap) (T : TopM mean mg mb s.heap) (hd : dp + 8 < recursionLimit) (hu : un + 64 < cLine)
    {L : Addr} {h : Heap} {tk : Nat} {cells : Led} {sc : Addr} {vs : List Value} {ks : List Int} {Bd : Int} {nb : Nat}
    (hi : IntsAre vs ks) (hB : ∀ k ∈ ks, (k.natAbs : Int) ≤ Bd) (hB0 : 0 ≤ Bd) (hnb : nb ≤ 100000000) (hBd : (2 * Bd + 2).natAbs < 2 ^ nb) (hlen : ks.length ≤ 63) (hl : s.heap.IsList sc vs.toArray) :
    (Fr s.heap L h (bindL (envOfC qual scope L 172 cdv).kindOf [(Str.ofString "script", Value.ref sc)] fun _ => none)) →
    (News s.heap L h cells) →
    (CellsAre (bindC (envOfC qual scope L 172 cdv).kindOf [(Str.ofString "script", Value.ref sc)] fun _ => none) (cellsFrom (L + 1) scope.names []) cells) →
    (∀ h' tk' (m' : Str → Option Value) d t0 x1 u1 n0 p o', Fr s.heap L h' (fun n => if n = Str.ofString "way" then some (.int d t0) else if n = Str.ofString "purse" then some (.ref p) else m' n) → News s.heap L h' [(p, listOf #[.int x1 u1] n0), (L + 1, o')] → p ≠ L + 1 → o'.data = Data.cell none → 0 ≤ d → d < 6 → 0 ≤ x1 → x1 < 2 ^ 420 → LawAt w s L Q dp un gd qual scope cdv (body.drop 2) h' tk') →
    LawAt w s L Q dp un gd qual scope cdv (body.drop 0) h tk := by
  have hBel : Below (arnd dp un gd []) s.heap [] s.heap := ⟨rfl, fun _ _ e => e, trivial⟩
  have hdr := room1 hd
  have hur := room3 hu
  refine' two_looks ho ?h2 ?_ (G := fun qual body scope cdv => (Fr s.heap L h (bindL (envOfC qual scope L 172 cdv).kindOf [(Str.ofString "script", Value.ref sc)] fun _ => none)) →
    (News s.heap L h cells) →
    (CellsAre (bindC (envOfC qual scope L 172 cdv).kindOf [(Str.ofString "script", Value.ref sc)] fun _ => none) (cellsFrom (L + 1) scope.names []) cells) →
    (∀ h' tk' (m' : Str → Option Value) d t0 x1 u1 n0 p o', Fr s.heap L h' (fun n => if n = Str.ofString "way" then some (.int d t0) else if n = Str.ofString "purse" then some (.ref p) else m' n) → News s.heap L h' [(p, listOf #[.int x1 u1] n0), (L + 1, o')] → p ≠ L + 1 → o'.data = Data.cell none → 0 ≤ d → d < 6 → 0 ≤ x1 → x1 < 2 ^ 420 → LawAt w s L Q dp un gd qual scope cdv (body.drop 2) h' tk') →
    LawAt w s L Q dp un gd qual scope cdv (body.drop 0) h tk)
  case h2 => k_dflt k_is
  k_whole
  intro next next1 next2 next3
  dsimp only [List.drop] at next3 ⊢
  unfold LawAt
  k_cells next2
  try simp only [List.cons_append, List.nil_append] at next1
  have F1 : Fr s.heap L h (fun y => if y = Str.ofString "script" then some (.ref sc) else none) := by with_unfolding_all exact next
  clear next
  rename (_ : Obj).data = Data.cell _ => d0
  have d1 : _ = Data.cell none := d0
  clear d0
  dsimp only
  with_reducible show wpCl _ _ _ _ _ _
  refine cl_execs ?_
  k_steps
  k_here
  refine' h_callP (c_purse w _ _ _ sc vs ks Bd hi hB hB0 nb hnb hBd hlen) ?cB ?cF ?cX ?cN ?cT ?cP Sels.nil ?ch ?cA ?cf ?ck ?cd ?cu ?_
  walk_at "my sides"
  case cP => exact hl.at fun o e => F1.keep _ _ e
  intro r n h2 tk2 F2 N2 cr hp
  obtain ⟨p, x0, t0, n0, x00, x01, rfl, rfl⟩ := hp
  have hpc : p ≠ L + 1 := cr _ (.head _) _ (.head _)
  have hpc2 : ¬ @Eq Nat p (L + 1) := hpc
  clear cr
  clear F1 hi hB hBd hB0 hnb hlen
  simp only [List.nil_append, List.cons_append] at N2
  (try dsimp only)
  k_steps
  all_goals (try exact trivial)
  refine cl_execs ?_
  k_steps
  all_goals (try exact trivial)
  k_sweep
  unfold LawAt at next3
  with_reducible refine' next3 _ _ _ _ _ _ _ _ _ _ ?nF ?nN ?n1 ?n2 ?n3 ?n4 ?n5 ?n6
  case nF => assumption
  case nN => assumption
  case n1 => exact hpc
  case n2 => exact d1
  case n3 => k_asm
  case n4 => k_asm
  case n5 => k_asm
  case n6 => k_asm
end
section
theorem bound_of : ∀ (ks : List Int) (z : Int), z ∈ ks → z.natAbs < 2 ^ PyData.weightAll (ks.map PyData.int)
  | k :: ks, z, hz => by
    rw [List.map_cons, PyData.weightAll]
    rcases List.mem_cons.mp hz with rfl | hz
    · refine Nat.lt_of_lt_of_le ?_ (Nat.pow_le_pow_right (by decide) (show PyData.weight (.int z) ≤ _ by omega))
      rw [PyData.weight]
      split
      · rename_i h
        rw [beq_iff_eq] at h
        rw [h]; decide
      · exact Nat.lt_log2_self
    · exact Nat.lt_of_lt_of_le (bound_of ks z hz) (Nat.pow_le_pow_right (by decide) (by omega))
theorem bound_script {ks : List Int} (h : (PyData.list (ks.map PyData.int)).layable0 = true) : ∃ k : Nat, k ≤ 1048576 ∧ ∀ z ∈ ks, z.natAbs < 2 ^ k := by
  refine ⟨PyData.weightAll (ks.map PyData.int), ?_, fun z hz => bound_of ks z hz⟩
  unfold PyData.layable0 at h
  rw [Bool.and_eq_true, decide_eq_true_eq, PyData.weight] at h
  have := h.2
  rw [show (2 : Nat) ^ 20 = 1048576 by decide] at this
  exact this
/-- the law's whole body, segment after segment -/
theorem law_all {w : World} {mean mg mb} {name qual : Str} {params : Arguments} {body : List Stmt} {scope : Scope} {dV kV doc pm cdv ct oc : Value} {an od : Option Addr} {osl : Array (Option Value)}
    (ho : (Mine.hd.heap_39 w.params).lookup 172 = some ⟨oc, od, .func (fnOf name qual params body scope dV kV doc pm an cdv ct), osl⟩)
    {dp un : Nat} {gd : Option (List Code)} {s : Shared} {Q : Value → Shared → Prop} (X : (Mine.hd.heap_39 w.params).In s.heap) (T : TopM mean mg mb s.heap) (hd : dp + 8 < recursionLimit) (hu : un + 64 < cLine)
    {L : Addr} {h : Heap} {tk : Nat} {cells : Led} {sc : Addr} {vs : List Value} {ks : List Int} {Bd : Int} {nb : Nat} (hi : IntsAre vs ks) (hB : ∀ k ∈ ks, (k.natAbs : Int) ≤ Bd) (hB0 : 0 ≤ Bd) (hnb : nb ≤ 100000000) (hBd : (2 * Bd + 2).natAbs < 2 ^ nb) (hlen : ks.length ≤ 63) (hl : s.heap.IsList sc vs.toArray)
    (F : Fr s.heap L h (bindL (envOfC qual scope L 172 cdv).kindOf [(Str.ofString "script", Value.ref sc)] fun _ => none)) (N : News s.heap L h cells)
    (Y : CellsAre (bindC (envOfC qual scope L 172 cdv).kindOf [(Str.ofString "script", Value.ref sc)] fun _ => none) (cellsFrom (L + 1) scope.names []) cells)
    (ret : ∀ h' tk', (∀ b o, s.heap.get? b = some o → h'.get? b = some o) → Q (.bool true) { s with heap := h', toks := tk' }) :
    LawAt w s L Q dp un gd qual scope cdv body h tk := by
  refine law_A ho X T hd hu hi hB hB0 hnb hBd hlen hl F N Y ?_
  intro h2 tk2 m2 d t0 x1 u1 n0 p o' F N hp d1 d0 d6 x0 x1
  refine law_B ho X T hd hu d t0 F N d0 d6 ?_
  intro h3 tk3 z y t1 t2 F N hP
  refine law_C ho X T hd hu d z y t0 t1 t2 F N hp x0 x1 d0 d6 hP ?_
  intro h4 tk4 m4 sd bp bt ba tp tt ta ts x4 u4 dm F e1 e2 N x40 x41 hbp hdm hbt hba
  have S : Shape z bp bt ba := shape_of hP hbp hdm hbt hba
  obtain ⟨s1, s2, s3, s4, s5, s6, s7⟩ := S.facts
  have F := Fr_see F (Str.ofString "purse") (v := .ref p) (by with_unfolding_all exact e2)
  refine law_D ho X T hd hu F N hp x40 x41 s1 ?_
  intro h5 tk5 tx tf tc c x5 u5 F N x50 x51 c0 c1
  have hT : (ba ++ bp ++ bt).size = ba.size + bp.size + bt.size := by rw [Array.size_append, Array.size_append]
  have F1 := Fr_see (Fr_see (Fr_see F (Str.ofString "seed") (v := .int (I sd) ts) (by with_unfolding_all rfl)) (Str.ofString "text") (v := .bytes (ba ++ bp ++ bt) tx) (by with_unfolding_all rfl)) (Str.ofString "cut") (v := .int c tc) (by with_unfolding_all rfl)
  refine law_E ho X T hd hu F1 N hp c0 c1 (by omega) ?_
  intro h6 tk6 x dx ln kp g1 g2 g3 g4 k1 k2 k3 k4 v1 v4 F N hx hy
  have F2 := Fr_see (Fr_see (Fr_see (Fr_see (Fr_see (Fr_see (Fr_see F (Str.ofString "part") (v := .bytes bp tp) (by with_unfolding_all rfl)) (Str.ofString "tail") (v := .bytes bt tt) (by with_unfolding_all rfl)) (Str.ofString "size") (v := .int z t1) (by with_unfolding_all exact e1)) (Str.ofString "ahead") (v := .bytes ba ta) (by with_unfolding_all rfl)) (Str.ofString "seed") (v := .int (I sd) ts) (by with_unfolding_all rfl)) (Str.ofString "found") (v := .int (I (hashB sd (KBw.bInts (ba ++ bp ++ bt)))) tf) (by with_unfolding_all rfl)) (Str.ofString "coder") (v := .ref x) (by with_unfolding_all rfl)
  refine law_F ho X T hd hu F2 N hx hy hp (by omega) s2 (by omega) s7 (by omega) (law_num S) ?_
  intro h7 tk7 F N
  have F3 := Fr_see (Fr_see (Fr_see (Fr_see (Fr_see (Fr_see (Fr_see F (Str.ofString "found") (v := .int (I (hashB sd (KBw.bInts (ba ++ bp ++ bt)))) tf) (by with_unfolding_all rfl)) (Str.ofString "seed") (v := .int (I sd) ts) (by with_unfolding_all rfl)) (Str.ofString "tail") (v := .bytes bt tt) (by with_unfolding_all rfl)) (Str.ofString "ahead") (v := .bytes ba ta) (by with_unfolding_all rfl)) (Str.ofString "part") (v := .bytes bp tp) (by with_unfolding_all rfl)) (Str.ofString "size") (v := .int z t1) (by with_unfolding_all rfl)) (Str.ofString "purse") (v := .ref p) (by with_unfolding_all rfl)
  refine law_G ho X T hd hu F3 N hp x50 x51 s5 s6 s1 ?_
  rintro h8 tk8 m8 bo to x8 u8 F ⟨r1, r2, r3, r4, r5, r6⟩ N x80 x81 ⟨b1, b2⟩
  have F4 := Fr_see (Fr_see (Fr_see (Fr_see (Fr_see F (Str.ofString "found") r6) (Str.ofString "seed") (v := .int (I sd) ts) (by with_unfolding_all exact r5)) (Str.ofString "tail") (v := .bytes bt tt) (by with_unfolding_all exact r4)) (Str.ofString "ahead") (v := .bytes ba ta) (by with_unfolding_all exact r3)) (Str.ofString "other") (v := .bytes bo to) (by with_unfolding_all exact r1)
  refine law_H ho X T hd hu F4 N (by rw [b1]; exact s1) (law_ne S b1 b2) ?_
  intro h9 tk9 F N
  have F5 := Fr_see (Fr_see (Fr_see (Fr_see F (Str.ofString "seed") (v := .int (I sd) ts) (by with_unfolding_all rfl)) (Str.ofString "tail") (v := .bytes bt tt) (by with_unfolding_all rfl)) (Str.ofString "ahead") (v := .bytes ba ta) (by with_unfolding_all rfl)) (Str.ofString "purse") (v := .ref p) (by with_unfolding_all exact r2)
  exact law_I ho X T hd hu F5 N hp x80 x81 d1 s2 s3 ret
theorem law_all_cl {w : World} {mean mg mb} {name qual : Str} {params : Arguments} {body : List Stmt} {scope : Scope} {dV kV doc pm cdv ct oc : Value} {an od : Option Addr} {osl : Array (Option Value)}
    (ho : (Mine.hd.heap_39 w.params).lookup 172 = some ⟨oc, od, .func (fnOf name qual params body scope dV kV doc pm an cdv ct), osl⟩)
    {dp un : Nat} {gd : Option (List Code)} {s : Shared} {Q : Value → Shared → Prop} (X : (Mine.hd.heap_39 w.params).In s.heap) (T : TopM mean mg mb s.heap) (hd : dp + 8 < recursionLimit) (hu : un + 64 < cLine)
    {L : Addr} {h : Heap} {tk : Nat} {cells : Led} {sc : Addr} {vs : List Value} {ks : List Int} {Bd : Int} {nb : Nat} (hi : IntsAre vs ks) (hB : ∀ k ∈ ks, (k.natAbs : Int) ≤ Bd) (hB0 : 0 ≤ Bd) (hnb : nb ≤ 100000000) (hBd : (2 * Bd + 2).natAbs < 2 ^ nb) (hlen : ks.length ≤ 63) (hl : s.heap.IsList sc vs.toArray)
    (F : Fr s.heap L h (bindL (envOfC qual scope L 172 cdv).kindOf [(Str.ofString "script", Value.ref sc)] fun _ => none)) (N : News s.heap L h cells)
    (Y : CellsAre (bindC (envOfC qual scope L 172 cdv).kindOf [(Str.ofString "script", Value.ref sc)] fun _ => none) (cellsFrom (L + 1) scope.names []) cells)
    (ret : ∀ h' tk', (∀ b o, s.heap.get? b = some o → h'.get? b = some o) → Q (.bool true) { s with heap := h', toks := tk' }) :
    wpCl (MM w) (ktrTop (dp + 1) (un + 3) gd qual scope L 172 cdv (cellsFrom (L + 1) scope.names []) []) (execs body (envOfC qual scope L 172 cdv)) (fun fl s' => Q (match fl with | .ret v => v | _ => .none) s') (fun _ _ => False) { s with heap := h, toks := tk } :=
  law_all ho X T hd hu hi hB hB0 hnb hBd hlen hl F N Y ret
theorem c_law {w : World} {mean mg mb} {sc : Addr} {vs : List Value} {ks : List Int} {Bd : Int} {nb : Nat} (hi : IntsAre vs ks) (hB : ∀ k ∈ ks, (k.natAbs : Int) ≤ Bd) (hB0 : 0 ≤ Bd) (hnb : nb ≤ 100000000) (hBd : (2 * Bd + 2).natAbs < 2 ^ nb) (hlen : ks.length ≤ 63)
    {dp un : Nat} {gd : Option (List Code)} {s : Shared} {Q E : Value → Shared → Prop} (X : (Mine.hd.heap_39 w.params).In s.heap) (T : TopM mean mg mb s.heap) (hd : dp + 8 < recursionLimit) (hu : un + 64 < cLine)
    (hl : s.heap.IsList sc vs.toArray) (ret : ∀ h' tk', (∀ b o, s.heap.get? b = some o → h'.get? b = some o) → Q (.bool true) { s with heap := h', toks := tk' }) :
    wpCl (MM w) (arnd dp un gd []) (call (.ref 172) [.ref sc]) Q E s := by
  refine' h_top (lvl := 8) (binds := [(Str.ofString "script", Value.ref sc)]) ?ho ?hcd ?hbind ?hkind ?hnd ?hco ?hgen ?hk ?hl X T hd ?_
  case ho => k_dflt k_is
  case hcd => k_dflt k_is
  case hbind => intro s Xs; exact BindsTo.of_eq rfl
  case hkind => exact rfl
  case hnd => decide +kernel
  case hco => exact rfl
  case hgen => exact rfl
  case hk => exact rfl
  case hl => decide
  k_whole
  intro L h₁ tk cells F N Y
  refine cl_mono (Q := fun fl s' => Q (match fl with | .ret v => v | _ => .none) s') (E := fun _ _ => False) ?_ (fun fl s' q => by cases fl <;> exact q) (fun _ _ e => e)
  with_reducible refine' law_all_cl ?ho X T hd hu hi hB hB0 hnb hBd hlen hl F N Y ret
  case ho => k_dflt k_is
end
section
theorem fin_good {w : World} {s₀ s₁ : Shared} {ks : List Int} {h' : Heap} {tk' : Nat} (hg : s₁.gens = #[]) (hk : ∀ b o, s₁.heap.get? b = some o → h'.get? b = some o) :
    GoodWG PySem.Challenge.rw_pq1205_01.row.claim (classAt s₀.heap) (ExcName.means s₀.heap) [ofPy (PyData.list (List.map PyData.int ks))] s₁ (Except.ok (Flow.ret (.bool true))) { s₁ with heap := h', toks := tk' } :=
  GoodW.toG ⟨.inl ⟨.bool true, .bool true, [], rfl, raisesW_false (by wrow_none_raised), .bool true, by wrow_post, unshared_nil⟩, hk, rfl, hg⟩
theorem fin_walk (walk : ∀ {w : World} {s₀ s₁ : Shared} {mg mb : Str → Option Value} {sc : Addr} {vs : List Value} {ks : List Int}, TopM (ExcName.means s₀.heap) mg mb s₁.heap → (Mine.hd.heap_39 w.params).In s₁.heap → s₁.gens = #[] → s₁.heap.IsList sc vs.toArray → IntsAre vs ks → ks.length ≤ 63 → (PyData.list (ks.map PyData.int)).layable0 = true →
    wpAny (MM w) callerA (guarded (.ref 172) [.ref sc])
      (fun v s' => GoodWG PySem.Challenge.rw_pq1205_01.row.claim (classAt s₀.heap) (ExcName.means s₀.heap) [ofPy (PyData.list (List.map PyData.int ks))] s₁ (Except.ok (Flow.ret v)) s')
      (fun e s' => GoodWG PySem.Challenge.rw_pq1205_01.row.claim (classAt s₀.heap) (ExcName.means s₀.heap) [ofPy (PyData.list (List.map PyData.int ks))] s₁ (Except.error e) s') s₁) : PySem.Challenge.rw_pq1205_01.Holds := by
  refine Mine.hd ?_
  intro w s₀ s₁ mg mb G Y fa o pm cd doc dV kV ho hd hcd hD hmg hg args vals as hpre hlay hrd hwl hlo
  have KX := kIn_of Y
  refine Ground.open G ?_
  intro T B D TE TW
  clear ho hd hcd hD
  have hfa : mg (Str.ofString "law") = some (.ref fa) := hmg
  clear hmg
  have hfb : mg (Str.ofString "law") = some (.ref 172) := mg_of KX T.g (by k_is)
  rw [hfa] at hfb
  injection hfb with hfb
  injection hfb with hfb
  subst hfb
  wrow_args hpre hlay hrd hwl hlo
  rename List Int => ks
  have hl63 : ks.length ≤ 63 := by omega
  exact walk T KX hg (by assumption) (by assumption) hl63 (by assumption)
theorem fin_law {w : World} {s₀ s₁ : Shared} {mg mb : Str → Option Value} {sc : Addr} {vs : List Value} {ks : List Int} (T : TopM (ExcName.means s₀.heap) mg mb s₁.heap) (X : (Mine.hd.heap_39 w.params).In s₁.heap) (hg : s₁.gens = #[]) (hl : s₁.heap.IsList sc vs.toArray) (hi : IntsAre vs ks) (hlen : ks.length ≤ 63) (hlay : (PyData.list (ks.map PyData.int)).layable0 = true) :
    wpAny (MM w) callerA (guarded (.ref 172) [.ref sc])
      (fun v s' => GoodWG PySem.Challenge.rw_pq1205_01.row.claim (classAt s₀.heap) (ExcName.means s₀.heap) [ofPy (PyData.list (List.map PyData.int ks))] s₁ (Except.ok (Flow.ret v)) s')
      (fun e s' => GoodWG PySem.Challenge.rw_pq1205_01.row.claim (classAt s₀.heap) (ExcName.means s₀.heap) [ofPy (PyData.list (List.map PyData.int ks))] s₁ (Except.error e) s') s₁ := by
  refine guarded_of (fin_good (w := w) hg fun _ _ e => e) ?_
  obtain ⟨k, hk, hB⟩ := bound_script hlay
  have h2 : (0 : Int) < 2 ^ k := Int.pow_pos (by decide)
  have h3 : (2 * (2 : Int) ^ k + 2).natAbs < 2 ^ (k + 3) := by
    have e1 : (2 : Nat) ^ (k + 3) = 2 ^ k * 8 := by rw [Nat.pow_add]
    have e2 : ((2 ^ k : Nat) : Int) = (2 : Int) ^ k := by rw [Int.natCast_pow]; rfl
    rw [e1]
    omega
  have e2 : ((2 ^ k : Nat) : Int) = (2 : Int) ^ k := by rw [Int.natCast_pow]; rfl
  exact c_law (mean := ExcName.means s₀.heap) (dp := 1 + claimMargin) (un := 4) (gd := some []) hi (Bd := 2 ^ k) (nb := k + 3) (fun z hz => by have := hB z hz; omega) (Int.le_of_lt h2) (by omega) h3 hlen X T (by decide) (by decide) hl fun h' tk' hk => fin_good (w := w) hg hk
theorem fin_holds : PySem.Challenge.rw_pq1205_01.Holds := fin_walk fin_law
end
end Mine
theorem PySem.Challenge.cw_pq1205_01_holds : PySem.Challenge.rw_pq1205_01.Holds := by
  exact Mine.fin_holds
