import PyProof.Rows.All
import Wide.All
import OpenK.AllK
import Wide.FinOn
import Lean
import PySem.Challenge.RW_ok0088_01
set_option Elab.async false
set_option linter.all false
section
open PySem PySem.W PyProof.Rows
namespace Mine
-- Hd
/-- the cells of a text of sixteen that bind its defs and classes -/
abbrev pick16 {α : Type} {l : List α} {a0 a1 a2 a3 a4 a5 a6 a7 a8 a9 b0 b1 b2 b3 b4 b5 : α} (_ : l = [a0, a1, a2, a3, a4, a5, a6, a7, a8, a9, b0, b1, b2, b3, b4, b5]) : List α := [a0, a2, a4, a5, a6, a7, a8, b0, b1, b2, b3, b4, b5]
abbrev progL : Program := PySem.Challenge.rw_ok0088_01.row.toRowW.prog
set_option maxRecDepth 100000 in
noncomputable def viewL : Program := { progL with main := { progL.main with body := pick16 (l := progL.main.body) rfl } }
/-- the run's left side over the library's quick forms of the machine and its table -/
theorem left_quick {p q : Program} {loose : List Str} {Xt : Shared → Bool} {α : Type} {Yf : Shared → α} {Ya : World → α} {N : Nat}
    (h : ∀ w : World, ((fencedOpening PySem.W.Fast.tw14364793385576792824 p w N).bind fun s₀ => match s₀.heap.isNs mainGlobals && s₀.gens.size == 0 with
      | true => (PySem.W.Fast.tw14082659384304107361 PySem.W.Fast.tw14364793385576792824 p w s₀.heap.objs.size (s₀.heap.nsMap mainGlobals "__annotations__") N s₀ (topStub p)).bind fun s₁ => match staticsOk (importedModules p.main.body) s₀.heap s₁.heap && namesBound p s₁.heap && gensDone s₁ && laidKept s₀.heap s₁.heap with
        | true => some s₁
        | false => none
      | false => none).map (fun s => (openSeen q loose (importedModules p.main.body) Xt true s, Yf s)) = some (openGood q loose, Ya w)) : LeftO p q loose Xt Yf Ya N := by
  intro w
  have h1 := h w
  rw [← PySem.W.Fast.te14082659384304107361, ← PySem.W.Fast.te14364793385576792824] at h1
  exact h1
local macro_rules | `(tactic| o_head $H) => do
  let hw := Lean.mkIdent `hw
  let hc := Lean.mkIdent `hc
  `(tactic| (refine holds_open (q := viewL) (loose := []) (Xt := fun s => xlAt viewL [] s && recOk (RowW.records PySem.Challenge.rw_ok0088_01.row.toRowW) s) (XP := XL viewL []) (Yf := Hook.obs $H) (Ya := Hook.val $H) (YP := Hook.says $H) (N := 3770) (left_quick (by intro w; kernel_rfl)) (Hook.of $H) (Hook.keeps $H) (fun s e => xl_of s (Bool.and_eq_true_iff.mp e).1) XL.keeps (by rfl) (by rfl) (by rfl) (fun s e => recFacts_of (Bool.and_eq_true_iff.mp e).2) (by rfl) (by first | assumption | decide +kernel) (by decide +kernel) ⟨rfl, rfl, rfl, rfl, rfl, by decide +kernel⟩ ?$hw ?$hc))
set_option maxRecDepth 100000 in
set_option maxHeartbeats 80000000 in
open_top hd for PySem.Challenge.rw_ok0088_01
theorem topOff : True := by
  w_top off
  exact trivial
end Mine
end
section
open PySem PySem.W PyProof.Rows PySem.Calls PySem.Spec
namespace Mine
-- Base

abbrev tupOf (vs : List Value) : Obj := { cls := .type "tuple", data := .seq vs.toArray }
abbrev lstOf (vs : List Value) (n : Nat) : Obj := { cls := .type "list", data := .seq vs.toArray n }
abbrev remD (P : Params) (t1 t2 t3 t4 : Tok) (v1 v2 v3 v4 : Value) : Obj :=
  dictOf [⟨PyData.keyHash P "number", .str "number" t1, v1⟩, ⟨PyData.keyHash P "scope", .str "scope" t2, v2⟩, ⟨PyData.keyHash P "strength", .str "strength" t3, v3⟩, ⟨PyData.keyHash P "name", .str "name" t4, v4⟩] 4
abbrev boxO (bx t0 t1 t2 : Addr) (n : Nat) (x0 x1 y0 y1 z0 z1 : Int) (u0 u1 u2 u3 u4 u5 : Tok) : List (Addr × Obj) :=
  [(bx, lstOf [.ref t0, .ref t1, .ref t2] n), (t0, tupOf [.int x0 u0, .int x1 u1]), (t1, tupOf [.int y0 u2, .int y1 u3]), (t2, tupOf [.int z0 u4, .int z1 u5])]
theorem off1_of {D : Addr} : ∀ {l : List (Addr × Obj)}, (∀ q ∈ l, q.1 ≠ D) → LCg.Off1 D l
  | [], _ => trivial
  | _ :: _, h => ⟨h _ List.mem_cons_self, off1_of fun q hq => h q (List.mem_cons_of_mem _ hq)⟩
def PInt (x : Int) (v : Value) (_ : List (Addr × Obj)) : Prop := ∃ t, v = .int x t
def PBool (x : Bool) (v : Value) (_ : List (Addr × Obj)) : Prop := v = .bool x
def PList (old : List (Addr × Obj)) (ns : List Int) (v : Value) (made : List (Addr × Obj)) : Prop :=
  ∃ l vs n, v = .ref l ∧ made = [(l, lstOf vs n)] ∧ IntsAre vs ns ∧ ∀ q ∈ old, q.1 ≠ l

/-- what stood in h stands in h' -/
def Keeps (h h' : Heap) : Prop := ∀ b o, h.get? b = some o → h'.get? b = some o
theorem Keeps.refl (h : Heap) : Keeps h h := fun _ _ e => e

/-- the end of a called body: the value, the new objects -/
def Done (s : Shared) (g : Heap) (L' : Addr) (old : List (Addr × Obj)) (post : Value → List (Addr × Obj) → Prop) (v : Value) (s' : Shared) : Prop :=
  ∃ (h' : Heap) (tk' : Nat) (m' : Str → Option Value) (made : List (Addr × Obj)), s' = { s with heap := h', toks := tk' } ∧ Fr g L' h' m' ∧ News g L' h' (old ++ made) ∧ post v made

section
variable {prog : Program} {w : World} {A A₀ : Around} {s : Shared} {base h₀ : Heap} {outer : List Env} {L : Addr} {m : Str → Option Value} {env : Env} {news : List (Addr × Obj)} {K : Frag}
  {p : Program} {loose : List Str} {mean : ExcName → Option Value} {mg mb : Str → Option Value}
  {name qual : Str} {params : Arguments} {body : List Stmt} {scope : Scope} {dV kV doc pm cdv ct oc : Value} {an od : Option Addr} {osl : Array (Option Value)} {f : Addr} {vs : List Value} {binds : List (Str × Value)}

theorem enterG {Q E : Value → Shared → Prop} {post : Value → List (Addr × Obj) → Prop}
    (B : Below A₀ base outer h₀) (F : Fr h₀ L s.heap m) (X₀ : K.In h₀) (N : News h₀ L s.heap news) (T : Top p loose mean mg mb h₀) (hA : A.frames = some (env :: outer)) (hf : env.frame = some L) (hke : env.scope.kind = .function)
    (ho : K.lookup f = some ⟨oc, od, .func (fnOf name qual params body scope dV kV doc pm an cdv ct), osl⟩) (hcd : codeIn K cdv qual = true) (hroom : A.depth < recursionLimit)
    (hbind : BindsTo s (fnOf name qual params body scope dV kV doc pm an cdv ct) ⟨vs, []⟩ binds) (hloc : ∀ y ∈ binds, scope.names.lookup y.1 = some .local)
    (hQ : ∀ v made h' tk', Keeps s.heap h' → (∀ q ∈ made, h'.get? q.1 = some q.2 ∧ (s.heap.get? q.1 = none ∨ q.1 ∈ news.map (·.1))) → post v made → Q v { s with heap := h', toks := tk' })
    (h : ∀ g h₁, Fr g s.heap.objs.size h₁ (fun y => binds.reverse.lookup y) → News g s.heap.objs.size h₁ news → Below A base (env :: outer) g → K.In g → Top p loose mean mg mb g →
      wpAny (model prog w) (A.deeper (envOf qual scope s.heap.objs.size f cdv)) (execs body (envOf qual scope s.heap.objs.size f cdv))
        (fun fl s' => Done s g s.heap.objs.size news post (match fl with | .ret v => v | _ => .none) s')
        (fun e s' => wpAny (model prog w) (A.deeper (envOf qual scope s.heap.objs.size f cdv)) (leaving (envOf qual scope s.heap.objs.size f cdv) e) (fun _ s'' => E e s'') (fun e' s'' => E e' s'') s')
        { s with heap := h₁, toks := s.toks + binds.length })
    (hco : scope.isCoroutine = false) (hgen : scope.isGenerator = false) (hk : scope.kind = .function)
    (hcell : ∀ x ∈ scope.names, x.2 ≠ .cell) :
    wpAny (model prog w) A (call (.ref f) vs) Q E s := by
  refine wpAny_call ?_
  obtain ⟨FG, BG, st, _⟩ := groundX (R := fun _ _ => True) B F N hA hf hke
  have hlim : h₀.NoLimit := T.nolimit
  refine codeAny_call_def (fd := fnOf name qual params body scope dV kV doc pm an cdv ct) (body := body) (binds := binds) hroom ((X₀.keeps F.keep) _ _ ho) rfl (hlim.keeps F.keep) (codeRec_of (X₀.keeps F.keep) hcd) rfl hbind hcell hloc (fun h₁ hns hk₁ => ?_) hco hgen hk
  refine wpAny_mono (h _ h₁ ⟨hns, fun b o e => hk₁ b o (of_hideAll _ e), Nat.le_of_eq (hideAll_size _ _)⟩
    (fun p hp => ⟨hk₁ _ _ (N p hp).1, Nat.ne_of_lt (Heap.lt_size (N p hp).1), hideAll_none _ (List.mem_map_of_mem hp)⟩) BG (X₀.keeps st) (T.keeps st)) (fun fl s' hl => ?_) fun _ _ y => y
  obtain ⟨h', tk', m', made, rfl, F', N', hp⟩ := hl
  refine hQ _ made h' tk' (fun b o e => ?_) (fun q hq => ⟨(N' q (List.mem_append_right _ hq)).1, ?_⟩) hp
  · by_cases hb : b ∈ news.map (·.1)
    · obtain ⟨q, hq, rfl⟩ := List.mem_map.mp hb
      have h1 := (N q hq).1
      rw [e] at h1
      cases h1
      exact (N' q (List.mem_append_left _ hq)).1
    · exact F'.keep b o (hideAll_get _ e hb)
  · have h3 := (N' q (List.mem_append_right _ hq)).2.2
    by_cases hb : q.1 ∈ news.map (·.1)
    · exact .inr hb
    · refine .inl ?_
      cases hg : s.heap.get? q.1 with
      | none => rfl
      | some o => rw [hideAll_get _ hg hb] at h3; cases h3

theorem kindsG {scope : Scope} {binds : List (Str × Value)} (h : (binds.all fun y => scope.names.lookup y.1 == some .local || scope.names.lookup y.1 == some .cell) = true) (n : Nat) :
    ∀ x ∈ binds, scope.names.lookup x.1 = some .local ∨ (scope.names.lookup x.1 = some .cell ∧ ((cellsFrom n scope.names []).lookup x.1).isSome = true) := fun x hx => by
  have q := List.all_eq_true.mp h x hx
  rcases Bool.or_eq_true_iff.mp q with q | q
  · exact .inl (by simpa using q)
  · have q' : scope.names.lookup x.1 = some .cell := by simpa using q
    exact .inr ⟨q', cellsFrom_some _ _ _ (.inl q')⟩

theorem enterGC {Q E : Value → Shared → Prop} {post : Value → List (Addr × Obj) → Prop}
    (B : Below A₀ base outer h₀) (F : Fr h₀ L s.heap m) (X₀ : K.In h₀) (N : News h₀ L s.heap news) (T : Top p loose mean mg mb h₀) (hA : A.frames = some (env :: outer)) (hf : env.frame = some L) (hke : env.scope.kind = .function)
    (ho : K.lookup f = some ⟨oc, od, .func (fnOf name qual params body scope dV kV doc pm an cdv ct), osl⟩) (hcd : codeIn K cdv qual = true) (hroom : A.depth < recursionLimit)
    (hbind : BindsTo s (fnOf name qual params body scope dV kV doc pm an cdv ct) ⟨vs, []⟩ binds)
    (hkind : (binds.all fun y => scope.names.lookup y.1 == some .local || scope.names.lookup y.1 == some .cell) = true)
    (hnd : ((cellsFrom 0 scope.names []).map (·.1)).Nodup)
    (hQ : ∀ v made h' tk', Keeps s.heap h' → (∀ q ∈ made, h'.get? q.1 = some q.2 ∧ (s.heap.get? q.1 = none ∨ q.1 ∈ news.map (·.1))) → post v made → Q v { s with heap := h', toks := tk' })
    (h : ∀ g h₁ tk cells, Fr g s.heap.objs.size h₁ (bindL (envOfC qual scope s.heap.objs.size f cdv).kindOf binds fun _ => none) → News g s.heap.objs.size h₁ (cells ++ news) →
      CellsAre (bindC (envOfC qual scope s.heap.objs.size f cdv).kindOf binds fun _ => none) (cellsFrom (s.heap.objs.size + 1) scope.names []) cells → Below A base (env :: outer) g → K.In g → Top p loose mean mg mb g → (∀ p ∈ news, p.1 < s.heap.objs.size) →
      wpAny (model prog w) (A.deeper (envOfC qual scope s.heap.objs.size f cdv)) (execs body (envOfC qual scope s.heap.objs.size f cdv))
        (fun fl s' => Done s g s.heap.objs.size news post (match fl with | .ret v => v | _ => .none) s')
        (fun e s' => wpAny (model prog w) (A.deeper (envOfC qual scope s.heap.objs.size f cdv)) (leaving (envOfC qual scope s.heap.objs.size f cdv) e) (fun _ s'' => E e s'') (fun e' s'' => E e' s'') s')
        { s with heap := h₁, toks := tk })
    (hco : scope.isCoroutine = false) (hgen : scope.isGenerator = false) (hk : scope.kind = .function) :
    wpAny (model prog w) A (call (.ref f) vs) Q E s := by
  refine wpAny_call ?_
  obtain ⟨FG, BG, st, _⟩ := groundX (R := fun _ _ => True) B F N hA hf hke
  have hlim : h₀.NoLimit := T.nolimit
  refine codeAny_call_function hroom ((X₀.keeps F.keep) _ _ ho) rfl hco hgen rfl (codeRec_of (X₀.keeps F.keep) hcd) (hbind _ _ _ _ ?_)
  refine wpAny_newFunctionEnv_cells hk (kindsG hkind _) fun env' he s' x => ?_
  subst he
  refine ⟨(hlim.keeps F.keep).keeps x.toInCall.keep, codeAny_func ?_⟩
  obtain ⟨h₁, tk, rfl, _⟩ := x.done
  have hk₁ := x.toInCall.keep
  obtain ⟨cells, NC, Y⟩ := Cl.news (h₀ := s.heap) (Nat.le_refl _) fun n c hm => ⟨x.cell n c (lookup_of_mem_nodup (cellsFrom_names scope.names 0 (s.heap.objs.size + 1) [] [] rfl ▸ hnd) hm), x.above n c hm⟩
  refine wpAny_mono (h _ h₁ tk cells ⟨x.toInCall.ns, fun b o e => hk₁ b o (of_hideAll _ e), Nat.le_of_eq (hideAll_size _ _)⟩ (fun p hp => ?_) Y BG (X₀.keeps st) (T.keeps st) (fun p hp => Heap.lt_size (N p hp).1)) (fun fl s' hl => ?_) fun _ _ y => y
  · rcases List.mem_append.mp hp with hp | hp
    · refine ⟨(NC p hp).1, (NC p hp).2.1, ?_⟩
      cases q : (hideAll s.heap (news.map (·.1))).get? p.1 with
      | none => rfl
      | some o => have := of_hideAll _ q; rw [(NC p hp).2.2] at this; cases this
    · exact ⟨hk₁ _ _ (N p hp).1, Nat.ne_of_lt (Heap.lt_size (N p hp).1), hideAll_none _ (List.mem_map_of_mem hp)⟩
  · obtain ⟨h', tk', m', made, rfl, F', N', hp⟩ := hl
    refine hQ _ made h' tk' (fun b o e => ?_) (fun q hq => ⟨(N' q (List.mem_append_right _ hq)).1, ?_⟩) hp
    · by_cases hb : b ∈ news.map (·.1)
      · obtain ⟨q, hq, rfl⟩ := List.mem_map.mp hb
        have h1 := (N q hq).1
        rw [e] at h1
        cases h1
        exact (N' q (List.mem_append_left _ hq)).1
      · exact F'.keep b o (hideAll_get _ e hb)
    · have h3 := (N' q (List.mem_append_right _ hq)).2.2
      by_cases hb : q.1 ∈ news.map (·.1)
      · exact .inr hb
      · refine .inl ?_
        cases hg : s.heap.get? q.1 with
        | none => rfl
        | some o => rw [hideAll_get _ hg hb] at h3; cases h3
end

/-- the contract of a def that changes nothing that stood -/
def Fn (d : Nat) (w : World) (mean : ExcName → Option Value) (mg mb : Str → Option Value) (f : Addr) (vs : List Value) (old : List (Addr × Obj)) (post : Value → List (Addr × Obj) → Prop) : Prop :=
  ∀ (dp un : Nat) (gd : Option (List Code)) (cn : Str) (cs : Scope) (a : Addr) (ccd : Value) (cl : List (Str × Addr)) (outer : List Env) (A₀ : Around) (base h₀ : Heap) (L : Addr) (m : Str → Option Value) (s : Shared) (Q E : Value → Shared → Prop),
    Below A₀ base outer h₀ → Fr h₀ L s.heap m → (hd.heap_39 w.params).In h₀ → News h₀ L s.heap old → Top viewL (looseW viewL []) mean mg mb h₀ → cs.kind = .function →
    dp + d < recursionLimit → un + 100 * d < cLine →
    (∀ v made h' tk', Keeps s.heap h' → (∀ q ∈ made, h'.get? q.1 = some q.2 ∧ (s.heap.get? q.1 = none ∨ q.1 ∈ old.map (·.1))) → post v made → Q v { s with heap := h', toks := tk' }) →
    wpAny (model PySem.Challenge.rw_ok0088_01.row.prog w) (ktrTop dp un gd cn cs L a ccd cl outer) (call (.ref f) vs) Q E s

section
variable {w : World} {mean : ExcName → Option Value} {mg mb : Str → Option Value} {f : Addr} {vs : List Value} {old news : List (Addr × Obj)} {post : Value → List (Addr × Obj) → Prop}
  {d dp un : Nat} {gd : Option (List Code)} {cn : Str} {cs : Scope} {a : Addr} {ccd : Value} {cl : List (Str × Addr)} {outer : List Env} {A₀ : Around} {base h₀ : Heap} {L : Addr} {m : Str → Option Value} {s : Shared} {Q E : Value → Shared → Prop}

theorem Fn.use (C : Fn d w mean mg mb f vs old post) (B : Below A₀ base outer h₀) (F : Fr h₀ L s.heap m) (X : (hd.heap_39 w.params).In h₀) (N : News h₀ L s.heap news) (T : Top viewL (looseW viewL []) mean mg mb h₀) (hk : cs.kind = .function)
    (hd : dp + d < recursionLimit) (hu : un + 100 * d < cLine) (hs : ∀ q ∈ old, q ∈ news)
    (k : ∀ v made h' tk', Keeps s.heap h' → Fr h₀ L h' m → News h₀ L h' news → (∀ q ∈ made, h'.get? q.1 = some q.2 ∧ (s.heap.get? q.1 = none ∨ q.1 ∈ old.map (·.1))) → post v made → Q v { s with heap := h', toks := tk' }) :
    wpAny (model PySem.Challenge.rw_ok0088_01.row.prog w) (ktrTop dp un gd cn cs L a ccd cl outer) (call (.ref f) vs) Q E s :=
  C dp un gd cn cs a ccd cl outer A₀ base h₀ L m s Q E B F X (fun q hq => N q (hs q hq)) T hk hd hu fun v made h' tk' hK hM hp =>
    k v made h' tk' hK (F.kept hK) (fun q hq => ⟨hK _ _ (N q hq).1, (N q hq).2⟩) hM hp

theorem Fn.useI {x : Int} (C : Fn d w mean mg mb f vs old (PInt x)) (B : Below A₀ base outer h₀) (F : Fr h₀ L s.heap m) (X : (hd.heap_39 w.params).In h₀) (N : News h₀ L s.heap news) (T : Top viewL (looseW viewL []) mean mg mb h₀) (hk : cs.kind = .function)
    (hd : dp + d < recursionLimit) (hu : un + 100 * d < cLine) (hs : ∀ q ∈ old, q ∈ news)
    (k : ∀ t h' tk', Fr h₀ L h' m → News h₀ L h' news → Q (.int x t) { s with heap := h', toks := tk' }) :
    wpAny (model PySem.Challenge.rw_ok0088_01.row.prog w) (ktrTop dp un gd cn cs L a ccd cl outer) (call (.ref f) vs) Q E s :=
  Fn.use C B F X N T hk hd hu hs fun v made h' tk' _ F' N' _ ⟨t, e⟩ => by subst e; exact k t h' tk' F' N'
theorem Fn.useB {x : Bool} (C : Fn d w mean mg mb f vs old (PBool x)) (B : Below A₀ base outer h₀) (F : Fr h₀ L s.heap m) (X : (hd.heap_39 w.params).In h₀) (N : News h₀ L s.heap news) (T : Top viewL (looseW viewL []) mean mg mb h₀) (hk : cs.kind = .function)
    (hd : dp + d < recursionLimit) (hu : un + 100 * d < cLine) (hs : ∀ q ∈ old, q ∈ news)
    (k : ∀ h' tk', Fr h₀ L h' m → News h₀ L h' news → Q (.bool x) { s with heap := h', toks := tk' }) :
    wpAny (model PySem.Challenge.rw_ok0088_01.row.prog w) (ktrTop dp un gd cn cs L a ccd cl outer) (call (.ref f) vs) Q E s :=
  Fn.use C B F X N T hk hd hu hs fun v made h' tk' _ F' N' _ e => by subst e; exact k h' tk' F' N'
end
end Mine
namespace Mine
section
variable {s : Shared} {g : Heap} {L' : Addr} {old news' : List (Addr × Obj)} {h' : Heap} {tk' : Nat} {m' : Str → Option Value}
theorem doneI {x y : Int} {t : Tok} (e : y = x) (F : Fr g L' h' m') (N : News g L' h' news') (hs : ∀ q ∈ old, q ∈ news') :
    Done s g L' old (PInt x) (.int y t) { s with heap := h', toks := tk' } :=
  ⟨h', tk', m', [], rfl, F, fun q hq => N q (hs q (by simpa using hq)), t, by rw [e]⟩
theorem doneB {x y : Bool} (e : y = x) (F : Fr g L' h' m') (N : News g L' h' news') (hs : ∀ q ∈ old, q ∈ news') :
    Done s g L' old (PBool x) (.bool y) { s with heap := h', toks := tk' } :=
  ⟨h', tk', m', [], rfl, F, fun q hq => N q (hs q (by simpa using hq)), by rw [e]; rfl⟩
theorem doneL {ns : List Int} {l : Addr} {vs : List Value} {n : Nat} (F : Fr g L' h' m') (N : News g L' h' news') (hs : ∀ q ∈ old, q ∈ news')
    (hl : (l, lstOf vs n) ∈ news') (hi : IntsAre vs ns) (hne : ∀ q ∈ old, q.1 ≠ l) :
    Done s g L' old (PList old ns) (.ref l) { s with heap := h', toks := tk' } :=
  ⟨h', tk', m', [(l, lstOf vs n)], rfl, F, fun q hq => N q ((List.mem_append.mp hq).elim (hs q) fun h => by rw [List.mem_singleton.mp h]; exact hl), l, vs, n, rfl, rfl, hi, hne⟩
end
section
variable {w : World} {mean : ExcName → Option Value} {mg mb : Str → Option Value} {f : Addr} {vs : List Value} {old news : List (Addr × Obj)} {post : Value → List (Addr × Obj) → Prop}
  {d dp un : Nat} {gd : Option (List Code)} {cn : Str} {cs : Scope} {a : Addr} {ccd : Value} {cl : List (Str × Addr)} {outer : List Env} {A₀ : Around} {base h₀ : Heap} {L : Addr} {m : Str → Option Value} {s : Shared} {Q E : Value → Shared → Prop}
theorem Fn.useL {ns : List Int} (C : Fn d w mean mg mb f vs old (PList old ns)) (B : Below A₀ base outer h₀) (F : Fr h₀ L s.heap m) (X : (hd.heap_39 w.params).In h₀) (N : News h₀ L s.heap news) (T : Top viewL (looseW viewL []) mean mg mb h₀) (hk : cs.kind = .function)
    (hd : dp + d < recursionLimit) (hu : un + 100 * d < cLine) (hs : ∀ q ∈ old, q ∈ news)
    (k : ∀ l vs n h' tk', Fr h₀ L h' m → News h₀ L h' ((l, lstOf vs n) :: news) → LCg.Off1 l news → IntsAre vs ns → Q (.ref l) { s with heap := h', toks := tk' }) :
    wpAny (model PySem.Challenge.rw_ok0088_01.row.prog w) (ktrTop dp un gd cn cs L a ccd cl outer) (call (.ref f) vs) Q E s := by
  refine Fn.use C B F X N T hk hd hu hs fun v made h' tk' hK F' N' hM hp => ?_
  obtain ⟨l, us, n, rfl, rfl, hi, hne⟩ := hp
  have h1 := hM _ (List.mem_singleton.mpr rfl)
  have h2 : s.heap.get? l = none := h1.2.elim id fun hm => by
    obtain ⟨q, hq, e⟩ := List.mem_map.mp hm
    exact absurd e (hne q hq)
  refine k l us n h' tk' F' (fun q hq => ?_) (off1_of fun q hq e => ?_) hi
  · rcases List.mem_cons.mp hq with rfl | hq
    · refine ⟨h1.1, fun e => ?_, ?_⟩
      · obtain ⟨oL, _, _, hL, _⟩ := F.ns
        rw [show (l : Addr) = L from e] at h2
        rw [hL] at h2; cases h2
      · cases hg : h₀.get? l with
        | none => rfl
        | some o => rw [F.keep _ _ hg] at h2; cases h2
    · exact N' q hq
  · have h3 := (N q hq).1
    rw [e, h2] at h3; cases h3
end
end Mine
end
section
open PySem PySem.W PyProof.Rows PySem.Calls PySem.Spec
namespace Mine
-- CSize
def absV (a : Int) : Int := if a < 0 then -a else a
def sizeV (a b : Int) : Int := if absV b > absV a then absV b else absV a
set_option maxRecDepth 100000 in
set_option maxHeartbeats 8000000 in
theorem size_ok (w : World) (mean : ExcName → Option Value) (mg mb : Str → Option Value) (tp : Addr) (a b : Int) (ta tb : Tok) :
   (Fn 1 w mean mg mb 77 [.ref tp] [(tp, tupOf [.int a ta, .int b tb])] (PInt (sizeV a b))) := by
  unfold Fn
  k_fill
  (intro dp un gd cn cs a0 ccd cl outer A₀ base h₀ L m s Q E B F X N T hk hd hu hQ)
  k_dflt (refine' enterG B F X N T ?kA ?kF ?kK ?k6 ?k7 ?k8 ?k9 ?kB hQ ?_ ?c2 ?c3 ?c4 ?c5; (case kA => exact rfl); (case kF => exact rfl); (case kK => exact hk); (case k6 => k_is); (case k7 => k_is); (case k8 => ktr_room); (case k9 => exact BindsTo.of_eq rfl); (case c5 => decide); (case kB => exact locs rfl); (case c2 => exact rfl); (case c3 => exact rfl); (case c4 => exact rfl); k_whole)
  clear B F X N T hk hQ
  intro g' h' F' N' B' X' T'
  (try dsimp only)
  (try k_fold)
  k_steps
  (all_goals ((try dsimp only); (try k_unfold); (try dsimp only))); (all_goals (first | refine' doneI ?_ (by k_asm) (by k_asm) (by kcj_all) | refine' doneB ?_ (by k_asm) (by k_asm) (by kcj_all)))
  all_goals rfl
end Mine
end
section
open PySem PySem.W PyProof.Rows PySem.Calls PySem.Spec
namespace Mine
-- CTrunc
def truncV (a b : Int) : Int := if decide (a < 0) == decide (b < 0) then (if a < 0 then -a else a).fdiv (if b < 0 then -b else b) else -(if a < 0 then -a else a).fdiv (if b < 0 then -b else b)
set_option maxRecDepth 100000 in
set_option maxHeartbeats 8000000 in
theorem trunc_ok (w : World) (mean : ExcName → Option Value) (mg mb : Str → Option Value) (a b : Int) (ta tb : Tok) (hb : b ≠ 0) (b1 : -1000 ≤ b) (b2 : b ≤ 1000) :
   (Fn 1 w mean mg mb 70 [.int a ta, .int b tb] [] (PInt (truncV a b))) := by
  unfold Fn
  k_fill
  (intro dp un gd cn cs a0 ccd cl outer A₀ base h₀ L m s Q E B F X N T hk hd hu hQ)
  k_dflt (refine' enterG B F X N T ?kA ?kF ?kK ?k6 ?k7 ?k8 ?k9 ?kB hQ ?_ ?c2 ?c3 ?c4 ?c5; (case kA => exact rfl); (case kF => exact rfl); (case kK => exact hk); (case k6 => k_is); (case k7 => k_is); (case k8 => ktr_room); (case k9 => exact BindsTo.of_eq rfl); (case c5 => decide); (case kB => exact locs rfl); (case c2 => exact rfl); (case c3 => exact rfl); (case c4 => exact rfl); k_whole)
  clear B F X N T hk hQ
  intro g' h' F' N' B' X' T'
  (try dsimp only)
  (try k_fold)
  k_steps
  (all_goals ((try dsimp only); (try k_unfold); (try dsimp only))); (all_goals (first | refine' doneI ?_ (by k_asm) (by k_asm) (by kcj_all) | refine' doneB ?_ (by k_asm) (by k_asm) (by kcj_all)))
  all_goals (unfold truncV; simp_all)
end Mine
end
section
open PySem PySem.W PyProof.Rows PySem.Calls PySem.Spec
namespace Mine
-- CHas
def hasP (lo hi many zz : Int) : Bool :=
  decide ((if 0 < zz then (if zz > lo then zz else lo) else lo) + (zz - (if 0 < zz then (if zz > lo then zz else lo) else lo)).fmod many ≤ hi)
def hasV (low high many z : Int) : Bool := if z < 0 then hasP (-high) (-low) many (-z) else hasP low high many z
theorem has_neg {a b m z : Int} (h : z < 0) : decide ((if -z > -b then -z else -b) + (-z - if -z > -b then -z else -b).fmod m ≤ -a) = hasV a b m z := by
  unfold hasV hasP
  rw [if_pos h, if_pos (by omega : 0 < -z)]
theorem has_pos {a b m z : Int} (h : ¬ z < 0) (h2 : 0 < z) : decide ((if z > a then z else a) + (z - if z > a then z else a).fmod m ≤ b) = hasV a b m z := by
  unfold hasV hasP
  rw [if_neg h, if_pos h2]
theorem has_zero {a b m z : Int} (h : ¬ z < 0) (h2 : ¬ 0 < z) : decide (a + (z - a).fmod m ≤ b) = hasV a b m z := by
  unfold hasV hasP
  rw [if_neg h, if_neg h2]
set_option maxRecDepth 100000 in
set_option maxHeartbeats 8000000 in
theorem has_ok (w : World) (mean : ExcName → Option Value) (mg mb : Str → Option Value) (slf : Value) (tp : Addr) (a b many z : Int) (ta tb tm tz : Tok) (h1 : 0 < many) (h2 : many ≤ 1000)  :
   (Fn 1 w mean mg mb 194 [slf, .ref tp, .int many tm, .int z tz] [(tp, tupOf [.int a ta, .int b tb])] (PBool (hasV a b many z))) := by
  unfold Fn
  k_fill
  (intro dp un gd cn cs a0 ccd cl outer A₀ base h₀ L m s Q E B F X N T hk hd hu hQ)
  k_dflt (refine' enterG B F X N T ?kA ?kF ?kK ?k6 ?k7 ?k8 ?k9 ?kB hQ ?_ ?c2 ?c3 ?c4 ?c5; (case kA => exact rfl); (case kF => exact rfl); (case kK => exact hk); (case k6 => k_is); (case k7 => k_is); (case k8 => ktr_room); (case k9 => exact BindsTo.of_eq rfl); (case c5 => decide); (case kB => exact locs rfl); (case c2 => exact rfl); (case c3 => exact rfl); (case c4 => exact rfl); k_whole)
  clear B F X N T hk hQ
  intro g' h' F' N' B' X' T'
  (try dsimp only)
  (try k_fold)
  k_steps
  (all_goals ((try dsimp only); (try k_unfold); (try dsimp only))); (all_goals (first | refine' doneI ?_ (by k_asm) (by k_asm) (by kcj_all) | refine' doneB ?_ (by k_asm) (by k_asm) (by kcj_all)))
  all_goals first | exact has_neg (by assumption) | exact has_pos (by assumption) (by assumption) | exact has_zero (by assumption) (by assumption)
end Mine
end
section
open PySem PySem.W PyProof.Rows PySem.Calls PySem.Spec Lean Elab Tactic Meta
set_option maxRecDepth 100000
namespace Mine
-- Comp
section
variable {prog : Program} {w : World} {A : Around} {h₀ : Heap} {L : Addr} {m : Str → Option Value} {env : Env} {ct elt : PySem.Expr} {x : Str} {scope : Scope} {cl : List (Str × Addr)} {s : Shared} {S : List (Addr × Obj) → Prop} {P : Nat → Value → Prop} {Fin : List Value → List (Addr × Obj) → Prop} {news : List (Addr × Obj)}
/-- a comprehension with one test over ints, its turns by a contract -/
theorem restT {n : Nat} {ks : List Int} (p : Int → Bool) (g : Int → Int) (hks : ks.length = n) (hP : ∀ i v, i < n → P i v → ∃ k t, ks[i]? = some k ∧ v = .int k t)
    (turn : ∀ k t I oI C oC D m₂ ys h tk (E' : Value → Shared → Prop), k ∈ ks → LCg.NsObj oC m₂ → m₂ x = some (.int k t) → Fr h₀ L h m → News h₀ L h ((I, oI) :: (C, oC) :: (D, LCg.lst ys) :: news) → LCg.Off3 I C D news → ((@Ne Nat I C) ∧ (@Ne Nat I D) ∧ (@Ne Nat C D)) →
      wpAny (model prog w) A (isTrue ct (compEnvC scope cl C env) (eval ct (compEnvC scope cl C env))) (fun ok s' => if ok = true then
        wpAny (model prog w) A (eval elt (compEnvC scope cl C env)) (LCg.CompEnd h₀ L m { s with heap := h, toks := tk } I oI C oC D (LCg.lst ys) S (fun y news' => p k = true ∧ KCfEl news (g k) y news')) E' s'
        else LCg.CompEnd h₀ L m { s with heap := h, toks := tk } I oI C oC D (LCg.lst ys) S (fun _ news' => p k = false ∧ KCfEl news 0 (.int 0 0) news') Value.none s') E' { s with heap := h, toks := tk })
    (fin : ∀ ys, IntsAre ys ((ks.filter p).map g) → Fin ys news) : LCt.CompRestT prog w A h₀ L m env ct elt x scope cl s S P Fin n 0 [] news := by
  have key : ∀ (j i : Nat) (ys : List Value), i + j = n → IntsAre ys (((ks.take i).filter p).map g) → LCt.CompRestT prog w A h₀ L m env ct elt x scope cl s S P Fin j i ys news := by
    intro j
    induction j with
    | zero =>
      intro i ys hi hy
      have e : i = ks.length := by omega
      subst e
      rw [List.take_length] at hy
      exact LCt.CompRestT.zero (fin ys hy)
    | succ j ih =>
      intro i ys hi hy
      refine LCt.CompRestT.succ ?_
      intro v I oI C oC D m₂ h tk E' hv hC hx F N off ne
      obtain ⟨k, t, hk, hv'⟩ := hP i v (by omega) hv
      rw [hv'] at hx
      refine wpAny_mono (turn k t I oI C oC D m₂ ys h tk E' (List.mem_of_getElem? hk) hC hx F N off ne) (fun ok s₂ hq => ?_) fun _ _ e => e
      cases ok with
      | true =>
        simp only [if_true] at hq ⊢
        refine wpAny_mono hq (fun y s₃ hq => ?_) fun _ _ e => e
        obtain ⟨h', tk', nw, e, F', N', off', hS, hp, hn, t', hy'⟩ := hq
        rw [hn] at N' off' hS
        refine ⟨h', tk', news, e, F', N', off', hS, ?_⟩
        rw [hy']
        refine ih (i + 1) _ (by omega) ?_
        rw [List.take_add_one, hk]
        simpa [hp] using IntsAre.append hy (.cons (g k) t' .nil)
      | false =>
        simp only [Bool.false_eq_true, if_false] at hq ⊢
        obtain ⟨h', tk', nw, e, F', N', off', hS, hp, hn, _⟩ := hq
        rw [hn] at N' off' hS
        refine ⟨h', tk', news, e, F', N', off', hS, ?_⟩
        refine ih (i + 1) _ (by omega) ?_
        rw [List.take_add_one, hk]
        simpa [hp] using hy
  exact key n 0 [] (by omega) (by simp only [List.take_zero, List.filter_nil, List.map_nil]; exact .nil)

theorem restT_range {n : Nat} {a : Int} (p : Int → Bool) (g : Int → Int)
    (turn : ∀ k t I oI C oC D m₂ ys h tk (E' : Value → Shared → Prop), a ≤ k → k < a + (n : Int) → LCg.NsObj oC m₂ → m₂ x = some (.int k t) → Fr h₀ L h m → News h₀ L h ((I, oI) :: (C, oC) :: (D, LCg.lst ys) :: news) → LCg.Off3 I C D news → ((@Ne Nat I C) ∧ (@Ne Nat I D) ∧ (@Ne Nat C D)) →
      wpAny (model prog w) A (isTrue ct (compEnvC scope cl C env) (eval ct (compEnvC scope cl C env))) (fun ok s' => if ok = true then
        wpAny (model prog w) A (eval elt (compEnvC scope cl C env)) (LCg.CompEnd h₀ L m { s with heap := h, toks := tk } I oI C oC D (LCg.lst ys) S (fun y news' => p k = true ∧ KCfEl news (g k) y news')) E' s'
        else LCg.CompEnd h₀ L m { s with heap := h, toks := tk } I oI C oC D (LCg.lst ys) S (fun _ news' => p k = false ∧ KCfEl news 0 (.int 0 0) news') Value.none s') E' { s with heap := h, toks := tk })
    (fin : ∀ ys, IntsAre ys (((rangeKs a n).filter p).map g) → Fin ys news) : LCt.CompRestT prog w A h₀ L m env ct elt x scope cl s S (fun i v => ∃ t, v = .int (a + (i : Int)) t) Fin n 0 [] news :=
  restT (ks := rangeKs a n) p g (rangeKs_length a n) (fun i v hi hv => by
    obtain ⟨t, e⟩ := hv
    exact ⟨a + (i : Int), t, by simp [rangeKs, hi], e⟩)
    (fun k t I oI C oC D m₂ ys h tk E' hk hC hx F N off ne => turn k t I oI C oC D m₂ ys h tk E' (mem_rangeKs hk).1 (mem_rangeKs hk).2 hC hx F N off ne) fin

theorem restT_list {vs : List Value} {ns : List Int} (p : Int → Bool) (g : Int → Int) (hi : IntsAre vs ns)
    (turn : ∀ k t I oI C oC D m₂ ys h tk (E' : Value → Shared → Prop), k ∈ ns → LCg.NsObj oC m₂ → m₂ x = some (.int k t) → Fr h₀ L h m → News h₀ L h ((I, oI) :: (C, oC) :: (D, LCg.lst ys) :: news) → LCg.Off3 I C D news → ((@Ne Nat I C) ∧ (@Ne Nat I D) ∧ (@Ne Nat C D)) →
      wpAny (model prog w) A (isTrue ct (compEnvC scope cl C env) (eval ct (compEnvC scope cl C env))) (fun ok s' => if ok = true then
        wpAny (model prog w) A (eval elt (compEnvC scope cl C env)) (LCg.CompEnd h₀ L m { s with heap := h, toks := tk } I oI C oC D (LCg.lst ys) S (fun y news' => p k = true ∧ KCfEl news (g k) y news')) E' s'
        else LCg.CompEnd h₀ L m { s with heap := h, toks := tk } I oI C oC D (LCg.lst ys) S (fun _ news' => p k = false ∧ KCfEl news 0 (.int 0 0) news') Value.none s') E' { s with heap := h, toks := tk })
    (fin : ∀ ys, IntsAre ys ((ns.filter p).map g) → Fin ys news) : LCt.CompRestT prog w A h₀ L m env ct elt x scope cl s S (fun i v => vs.toArray[i]? = some v) Fin vs.toArray.size 0 [] news :=
  restT (ks := ns) p g (by rw [List.size_toArray]; exact hi.length.symm) (fun i v _ hv => by
    obtain ⟨k, t, e, hk⟩ := IntsAre.at hi i v (by simpa using hv)
    exact ⟨k, t, hk, e⟩) turn fin
end
theorem rng_small {a b : Int} (h : -20 ≤ a ∧ b ≤ 20 ∧ a ≤ b) : Builtin.Range.small a (b + 1) 1 = true := small_one (by omega) (by omega) (by omega) (by omega)
theorem rng_size {a b : Int} (h : -20 ≤ a ∧ b ≤ 20 ∧ a ≤ b) : (b + 1 - a).toNat ≤ sizeLine := by rw [PySem.sizeLine_eq]; omega
theorem rng_mem {a b k : Int} (h : -20 ≤ a ∧ b ≤ 20 ∧ a ≤ b) (h1 : a ≤ k) (h2 : k < a + ((b + 1 - a).toNat : Int)) : k ≤ b ∧ -100 ≤ k ∧ k ≤ 100 := by omega
theorem wide100 {a b : Int} (h : -20 ≤ a ∧ b ≤ 20 ∧ a ≤ b) : -100 ≤ a ∧ b ≤ 100 ∧ a ≤ 100 ∧ -100 ≤ b := by omega
end Mine
end
section
open PySem PySem.W PyProof.Rows PySem.Calls PySem.Spec
set_option maxRecDepth 100000
namespace Mine
-- Loop
/-- the address of the i-th entry of a ledger -/
def nAddr {h₀ h : Heap} {L : Addr} {news : List (Addr × Obj)} (_ : News h₀ L h news) (i : Nat) : Addr := (news.map (·.1)).getD i 0
def Stop (P : Prop) : Prop := P
theorem Stop.out {P : Prop} (h : Stop P) : P := h
theorem Stop.intro {P : Prop} (h : P) : Stop P := h

section
variable {prog : Program} {w : World} {A : Around} {E : Value → Shared → Prop} {s : Shared} {env : Env} {h₀ : Heap} {x : Str} {body : List Stmt} {Q : Flow → Shared → Prop}

def SEnd {σ : Type} (Led : σ → List (Addr × Obj)) (ps : σ → List (Str × Value)) (stored : List Str) (m₀ : Str → Option Value) (x : Str) (P : σ → Prop) (h₀ : Heap) (L I : Addr) (oI : Obj) (s₁ s₂ : Shared) : Prop :=
  ∃ h' tk' m' nx c, s₂ = { s₁ with heap := h', toks := tk' } ∧ Fr h₀ L h' m' ∧ News h₀ L h' nx ∧ (∀ p ∈ (I, oI) :: Led c, p ∈ nx) ∧ LCg.Off1 I (Led c) ∧ (∀ p ∈ ps c, m' p.1 = some p.2) ∧
    (∀ z, z ≠ x → (∀ p ∈ ps c, z ≠ p.1) → stored.contains z = false → m' z = m₀ z) ∧ P c
def SPost {σ : Type} (Led : σ → List (Addr × Obj)) (ps : σ → List (Str × Value)) (stored : List Str) (m₀ : Str → Option Value) (x : Str) (P : σ → Prop) (h₀ : Heap) (L I : Addr) (oI : Obj) (s₁ : Shared) (Q : Flow → Shared → Prop) (f : Flow) (s₂ : Shared) : Prop :=
  match f with
  | .ret v => Q (.ret v) s₂
  | .brk => Q .next s₂
  | _ => SEnd Led ps stored m₀ x P h₀ L I oI s₁ s₂
theorem SEnd.intro {σ : Type} {Led : σ → List (Addr × Obj)} {ps : σ → List (Str × Value)} {stored : List Str} {m₀ : Str → Option Value} {P : σ → Prop} {L I : Addr} {oI : Obj} {s₁ : Shared} {h' : Heap} {tk' : Nat} {m' : Str → Option Value} {nx : List (Addr × Obj)} (c : σ)
    (F : Fr h₀ L h' m') (N : News h₀ L h' nx) (hs : ∀ p ∈ (I, oI) :: Led c, p ∈ nx) (ho : LCg.Off1 I (Led c)) (hk : ∀ p ∈ ps c, m' p.1 = some p.2)
    (hm : ∀ z, z ≠ x → (∀ p ∈ ps c, z ≠ p.1) → stored.contains z = false → m' z = m₀ z) (hp : P c) : SEnd Led ps stored m₀ x P h₀ L I oI s₁ { s₁ with heap := h', toks := tk' } :=
  ⟨h', tk', m', nx, c, rfl, F, N, hs, ho, hk, hm, hp⟩

theorem off1_mem {D : Addr} : ∀ {l : List (Addr × Obj)}, LCg.Off1 D l → ∀ q ∈ l, q.1 ≠ D
  | [], _, _, h => nomatch h
  | _ :: _, x, q, h => by
    rcases List.mem_cons.mp h with rfl | h
    · exact x.1
    · exact off1_mem x.2 q h

theorem loopS {σ : Type} {I : Addr} {n : Nat} {fp : List Addr} {V : Nat → Value → Prop} {St : Nat → Heap → Prop} {m₀ : Str → Option Value} (Led : σ → List (Addr × Obj)) (ps : σ → List (Str × Value)) (stored : List Str) (P : Nat → σ → Prop) (c₀ : σ)
    (W : Walks prog w A I fp [I] n V St) (hst : St 0 s.heap) (hIo : ∀ i h, St i h → ∃ o, h.get? I = some o) (hLf : env.locals ∉ fp) (hI₀ : h₀.get? I = none) (hoff : LCg.Off1 I (Led c₀))
    (hfp : ∀ b ∈ fp, h₀.get? b = none → b = I ∨ ∃ ol, ∀ i c, P i c → (b, ol) ∈ Led c)
    (F : Fr h₀ env.locals s.heap m₀) (N : News h₀ env.locals s.heap (Led c₀)) (hk : ∀ p ∈ ps c₀, m₀ p.1 = some p.2) (hp : P 0 c₀)
    (turn : ∀ (c : σ) (i : Nat) v (u : Str → Option Value) h tk oI, i < n → V i v → P i c → LCg.Off1 I (Led c) →
      Fr h₀ env.locals h (fun y => if y = x then some v else kstB (fun z => if stored.contains z then u z else m₀ z) (ps c) y) → News h₀ env.locals h ((I, oI) :: Led c) →
      wpAny (model prog w) A (execs body env) (SPost Led ps stored m₀ x (P (i + 1)) h₀ env.locals I oI { s with heap := h, toks := tk } Q) E { s with heap := h, toks := tk })
    (done : ∀ (c : σ) (u : Str → Option Value) h tk, P n c → Fr h₀ env.locals h (fun y => if y = x then u y else kstB (fun z => if stored.contains z then u z else m₀ z) (ps c) y) → News h₀ env.locals h (Led c) → Q .next { s with heap := h, toks := tk }) :
    LoopAtV prog w A h₀ env x body Q E (.ref I) s := by
  let J : Nat → (Str → Option Value) → List (Addr × Obj) → Prop := fun i m nx => ∃ c, nx = Led c ∧ (∀ p ∈ ps c, m p.1 = some p.2) ∧ (∀ z, z ≠ x → (∀ p ∈ ps c, z ≠ p.1) → stored.contains z = false → m z = m₀ z) ∧ P i c
  refine ⟨I, fp, [I], n, V, St, m₀, Led c₀, J, rfl, W, hLf, (fun b hb => by rw [List.mem_singleton.mp hb]; exact hI₀), (fun p hp => by simpa using off1_mem hoff p hp), hst, F, N, ⟨c₀, rfl, hk, fun _ _ _ _ => rfl, hp⟩, ?_, ?_⟩
  · rintro i v m₁ news₁ s₁ own ⟨h, tk, rfl⟩ hi hV ⟨c, rfl, h1, h2, hP⟩ hno hown hget hall hst₁ F₁ N₁
    obtain ⟨oI, heI⟩ := hIo _ _ hst₁
    have hIf : I ∈ fp := W.sub I (List.mem_singleton.mpr rfl)
    have hmI : (I, oI) ∈ own := hall I hIf hI₀ oI heI
    have N₂ : News h₀ env.locals h ((I, oI) :: Led c) := fun p hp => by
      rcases List.mem_cons.mp hp with rfl | hp
      · exact N₁ _ (List.mem_append_left _ hmI)
      · exact N₁ _ (List.mem_append_right _ hp)
    refine wpAny_mono (turn c i v m₁ h tk oI hi hV hP (off1_of fun q hq => by simpa using hno q hq) (kst_fr h1 h2 F₁) N₂) (fun f s₂ p => ?_) fun _ _ e => e
    have fin : SEnd Led ps stored m₀ x (P (i + 1)) h₀ env.locals I oI { s with heap := h, toks := tk } s₂ → LoopStepU h₀ env.locals [I] own (J (i + 1)) { s with heap := h, toks := tk } .next s₂ := by
      rintro ⟨h', tk', m', nx, c', e, F', N', hs, ho, hk', hm', hP'⟩
      refine ⟨rfl, h', tk', m', Led c', e, F', fun p hp => ?_, (fun p hp => by simpa using off1_mem ho p hp), c', rfl, hk', hm', hP'⟩
      rcases List.mem_append.mp hp with hp | hp
      · have hpf := hown p hp
        have hpg : h.get? p.1 = some p.2 := hget p hp
        have hp0 : h₀.get? p.1 = none := (N₁ p (List.mem_append_left _ hp)).2.2
        rcases hfp p.1 hpf hp0 with e1 | ⟨ol, hol⟩
        · have e2 : p.2 = oI := by rw [e1, heI] at hpg; exact (Option.some.inj hpg).symm
          have e3 : p = (I, oI) := Prod.ext e1 e2
          rw [e3]; exact N' _ (hs _ (.head _))
        · have e2 : p.2 = ol := by
            have := (N₁ _ (List.mem_append_right own (hol i c hP))).1
            have hpg' : h.get? p.1 = some p.2 := hpg
            rw [show h.get? p.1 = some ol from this] at hpg'
            exact (Option.some.inj hpg').symm
          have e3 : p = (p.1, ol) := Prod.ext rfl e2
          rw [e3]; exact N' _ (hs _ (.tail _ (hol _ c' hP')))
      · exact N' _ (hs _ (.tail _ hp))
    cases f with
    | ret v => exact .ret p
    | brk => exact .brk p
    | next => exact .next (fin p)
    | cont => exact .cont (fin p)
  · rintro h' tk m' news' F' N' _ ⟨c, rfl, h1, h2, hP⟩
    exact done c m' h' tk hP (kst_frOut h1 h2 F') N'

theorem loopS_range {σ : Type} {r : Addr} {a₀ b₀ : Int} {t₀ u₀ v₀ : Tok} {n : Nat} {m₀ : Str → Option Value} (Led : σ → List (Addr × Obj)) (ps : σ → List (Str × Value)) (stored : List Str) (P : Nat → σ → Prop) (c₀ : σ)
    (hh : A.handled = none) (hr : IsRange s.heap r a₀ b₀ 1 t₀ u₀ v₀) (hsmall : Builtin.Range.small a₀ b₀ 1 = true) (hn : Builtin.Range.rangeSize a₀ b₀ 1 = (n : Int))
    (F : Fr h₀ env.locals s.heap m₀) (N : News h₀ env.locals s.heap (Led c₀)) (hk : ∀ p ∈ ps c₀, m₀ p.1 = some p.2) (hp : P 0 c₀)
    (turn : ∀ (c : σ) (i : Nat) (k : Int) t (u : Str → Option Value) h tk I oI, k = a₀ + (i : Int) → i < n → P i c → LCg.Off1 I (Led c) →
      Fr h₀ env.locals h (fun y => if y = x then some (.int k t) else kstB (fun z => if stored.contains z then u z else m₀ z) (ps c) y) → News h₀ env.locals h ((I, oI) :: Led c) →
      wpAny (model prog w) A (execs body env) (SPost Led ps stored m₀ x (P (i + 1)) h₀ env.locals I oI { s with heap := h, toks := tk } Q) E { s with heap := h, toks := tk })
    (done : ∀ (c : σ) (u : Str → Option Value) h tk, P n c → Fr h₀ env.locals h (fun y => if y = x then u y else kstB (fun z => if stored.contains z then u z else m₀ z) (ps c) y) → News h₀ env.locals h (Led c) → Q .next { s with heap := h, toks := tk }) :
    wpAny (model prog w) A (pyIter (.ref r)) (fun it s₂ => LoopAtV prog w A h₀ env x body Q E it s₂) E s := by
  refine wpAny_pyIter_range hr hsmall ?_
  refine loopS (s := { s with heap := s.heap.push _ }) (fp := [s.heap.objs.size]) (V := fun i v => ∃ t, v = .int (a₀ + (i : Int)) t) (St := fun i h => IsRangeIter h s.heap.objs.size (a₀ + (i : Nat) * 1) ((n : Int) - (i : Nat)) 1) Led ps stored P c₀ (LCg.range_walks hh a₀ n)
    (by show IsRangeIter _ _ _ _ _; rw [hn]; simpa using Heap.get?_push_size _ rfl) (fun i h st => ⟨_, st⟩) ?_ (next_is_new F) (off1_of fun p hp => Nat.ne_of_lt (Heap.lt_size (N p hp).1)) (fun b hb _ => .inl (List.mem_singleton.mp hb)) (F.push _) (fun p hp => ⟨Heap.get?_push_of_some _ (N p hp).1, (N p hp).2⟩) hk hp ?_ ?_
  · intro hm
    exact absurd F.ns.lt ((List.mem_singleton.mp hm) ▸ Nat.lt_irrefl _)
  · rintro c i v u h tk oI hi ⟨t, rfl⟩ hP ho F₁ N₁
    exact turn c i _ t u h tk _ oI rfl hi hP ho F₁ N₁
  · intro c u h tk hP F₁ N₁
    exact done c u h tk hP F₁ N₁

theorem loopS_list {σ : Type} {l : Addr} {vs : List Value} {ns : List Int} {nn : Nat} {m₀ : Str → Option Value} (Led : σ → List (Addr × Obj)) (ps : σ → List (Str × Value)) (stored : List Str) (P : Nat → σ → Prop) (c₀ : σ)
    (hh : A.handled = none) (hl : ∀ c, (l, lstOf vs nn) ∈ Led c) (hi : IntsAre vs ns)
    (F : Fr h₀ env.locals s.heap m₀) (N : News h₀ env.locals s.heap (Led c₀)) (hk : ∀ p ∈ ps c₀, m₀ p.1 = some p.2) (hp : P 0 c₀)
    (turn : ∀ (c : σ) (i : Nat) (k : Int) t (u : Str → Option Value) h tk I oI, ns[i]? = some k → P i c → LCg.Off1 I (Led c) →
      Fr h₀ env.locals h (fun y => if y = x then some (.int k t) else kstB (fun z => if stored.contains z then u z else m₀ z) (ps c) y) → News h₀ env.locals h ((I, oI) :: Led c) →
      wpAny (model prog w) A (execs body env) (SPost Led ps stored m₀ x (P (i + 1)) h₀ env.locals I oI { s with heap := h, toks := tk } Q) E { s with heap := h, toks := tk })
    (done : ∀ (c : σ) (u : Str → Option Value) h tk, P ns.length c → Fr h₀ env.locals h (fun y => if y = x then u y else kstB (fun z => if stored.contains z then u z else m₀ z) (ps c) y) → News h₀ env.locals h (Led c) → Q .next { s with heap := h, toks := tk }) :
    wpAny (model prog w) A (pyIter (.ref l)) (fun it s₂ => LoopAtV prog w A h₀ env x body Q E it s₂) E s := by
  have hls : s.heap.IsList l vs.toArray := ⟨_, (N _ (hl c₀)).1, rfl, nn, rfl⟩
  have hlt : l < s.heap.objs.size := Heap.lt_size (N _ (hl c₀)).1
  have hlen : vs.toArray.size = ns.length := by rw [List.size_toArray]; exact hi.length
  refine wpAny_pyIter_list hls ?_
  have W := Walks.list (prog := prog) (w := w) hh s.heap.objs.size l (Nat.ne_of_lt hlt) vs.toArray
  rw [hlen] at W
  refine loopS (s := { s with heap := s.heap.push _ }) Led ps stored P c₀ W ⟨⟨_, Heap.get?_push_size _ rfl, rfl, rfl⟩, hls.push _⟩ (fun i h st => by obtain ⟨o, e, _⟩ := st.1; exact ⟨o, e⟩) ?_ (next_is_new F) (off1_of fun p hp => Nat.ne_of_lt (Heap.lt_size (N p hp).1))
    (fun b hb _ => ?_) (F.push _) (fun p hp => ⟨Heap.get?_push_of_some _ (N p hp).1, (N p hp).2⟩) hk hp ?_ ?_
  · intro hm
    rcases List.mem_cons.mp hm with e | hm
    · exact absurd F.ns.lt (e ▸ Nat.lt_irrefl _)
    · exact (N _ (hl c₀)).2.1 ((List.mem_singleton.mp hm).symm)
  · rcases List.mem_cons.mp hb with e | hb
    · exact .inl e
    · rw [List.mem_singleton.mp hb]
      exact .inr ⟨_, fun _ c _ => hl c⟩
  · rintro c i v u h tk oI hin hV hP ho F₁ N₁
    obtain ⟨k, t, e, hkk⟩ := IntsAre.at hi i v (by simpa using hV)
    subst e
    exact turn c i k t u h tk _ oI hkk hP ho F₁ N₁
  · intro c u h tk hP F₁ N₁
    exact done c u h tk hP F₁ N₁

theorem appL {L D : Addr} {m : Str → Option Value} {news news' : List (Addr × Obj)} {vs : List Value} {n : Nat} {v : Value} {Q : Value → Shared → Prop} (F : Fr h₀ L s.heap m) (N : News h₀ L s.heap news) (U : Upd D (lstOf vs n) (lstOf (vs ++ [v]) (n + 1)) news news') (hsz : vs.length ≤ 100000)
    (h : ∀ h', Fr h₀ L h' m → News h₀ L h' news' → Q .none { s with heap := h' }) : wpAny (model prog w) A (call (.builtin "list.append") [.ref D, v]) Q E s :=
  append_K F N (its := vs.toArray) (n := n) (by rw [List.push_toArray]; exact U) h (hsz := by rw [PySem.sizeLine_eq, List.size_toArray]; omega)
end
theorem rangeKs_succ (a : Int) (n : Nat) : rangeKs a (n + 1) = rangeKs a n ++ [a + (n : Int)] := by
  simp [rangeKs, List.range_succ]
theorem ints_snoc {vs : List Value} {ns : List Int} {k k' : Int} {t : Tok} (h : IntsAre vs ns) (e : k = k') : IntsAre (vs ++ [.int k t]) (ns ++ [k']) := by
  subst e; exact IntsAre.append h (.cons k t .nil)
end Mine
end
section
open PySem PySem.W PyProof.Rows PySem.Calls PySem.Spec
namespace Mine
-- CDiv
local macro_rules | `(tactic| walk_at "call ref") => `(tactic| (k_here; (with_reducible show wpAny _ _ (call (Value.ref 77) [_]) _ _ _); k_dflt (refine' Fn.useI (size_ok _ _ _ _ _ _ _ _ _) ?B ?F ?X ?N ?T ?hk ?hd ?hu ?hs ?_; (case B => k_asm); (case F => k_asm); (case X => k_asm); (case N => k_asm); (case T => k_asm); (case hk => first | exact rfl | assumption); (case hs => exact List.forall_mem_cons.mpr ⟨by k_mem, List.forall_mem_nil _⟩); (case hd => ktr_room); (case hu => ktr_units); k_whole); intro t9 h9 tk9 F9 N9; (try dsimp only); (try k_sweep)))
local macro_rules | `(tactic| walk_at "eval ListComp") => `(tactic| (k_here; k_dflt (refine' LCg.ListComp_U (F₀ := ?F) ?z0 ?z1 ?z2 ?z3 ?z4 ?_ ?g; (case F => k_asm); (case z0 => with_unfolding_all rfl); (case z1 => decide); (case z2 => rfl); (case z3 => decide); (case z4 => rfl); (case g => intro _; rfl))))
local macro_rules | `(tactic| walk_at "eval ListComp") => `(tactic| (k_here; k_dflt (refine' LCt.ListComp_T (F₀ := ?F) ?z0 ?z1 ?z2 ?z3 ?z4 ?_ ?g; (case F => k_asm); (case z0 => with_unfolding_all rfl); (case z1 => decide); (case z2 => rfl); (case z3 => decide); (case z4 => rfl); (case g => intro _; rfl))))
def firstV (x0 x1 y0 : Int) : Int := if -(sizeV x0 x1 + 1) > y0 then -(sizeV x0 x1 + 1) else y0
def lastV (x0 x1 y1 : Int) : Int := if sizeV x0 x1 + 1 < y1 then sizeV x0 x1 + 1 else y1
def divL (x0 x1 y0 y1 : Int) : List Int :=
  if lastV x0 x1 y1 < firstV x0 x1 y0 then [if 0 < y0 then y0 else y1]
  else ((rangeKs (firstV x0 x1 y0) (lastV x0 x1 y1 + 1 - firstV x0 x1 y0).toNat).filter fun y => decide (y ≠ 0)).map fun y => y
theorem sizeV_bd {a b : Int} (h1 : -100 ≤ a) (h2 : a ≤ 100) (h3 : -100 ≤ b) (h4 : b ≤ 100) : 0 ≤ sizeV a b ∧ sizeV a b ≤ 100 := by
  unfold sizeV absV; repeat' split
  all_goals omega
set_option maxRecDepth 100000 in
set_option maxHeartbeats 8000000 in
theorem div_ok (w : World) (mean : ExcName → Option Value) (mg mb : Str → Option Value) (slf : Value) (bx t0 t1 : Addr) (n : Nat) (v2 : Value) (x0 x1 y0 y1 : Int) (u0 u1 u2 u3 : Tok) (hx0 : -100 ≤ x0) (hx1 : x1 ≤ 100) (hx2 : x0 ≤ 100) (hx3 : -100 ≤ x1) (hy0 : -100 ≤ y0) (hy1 : y1 ≤ 100) (hy2 : y0 ≤ 100) (hy3 : -100 ≤ y1) :
   (Fn 3 w mean mg mb 159 [slf, .ref bx] [(bx, lstOf [.ref t0, .ref t1, v2] n), (t0, tupOf [.int x0 u0, .int x1 u1]), (t1, tupOf [.int y0 u2, .int y1 u3])]
     (PList [(bx, lstOf [.ref t0, .ref t1, v2] n), (t0, tupOf [.int x0 u0, .int x1 u1]), (t1, tupOf [.int y0 u2, .int y1 u3])] (divL x0 x1 y0 y1))) := by
  unfold Fn
  k_fill
  (intro dp un gd cn cs a0 ccd cl outer A₀ base h₀ L m s Q E B F X N T hk hd hu hQ)
  k_dflt (refine' enterG B F X N T ?kA ?kF ?kK ?k6 ?k7 ?k8 ?k9 ?kB hQ ?_ ?c2 ?c3 ?c4 ?c5; (case kA => exact rfl); (case kF => exact rfl); (case kK => exact hk); (case k6 => k_is); (case k7 => k_is); (case k8 => ktr_room); (case k9 => exact BindsTo.of_eq rfl); (case c5 => decide); (case kB => exact locs rfl); (case c2 => exact rfl); (case c3 => exact rfl); (case c4 => exact rfl); k_whole)
  clear B F X N T hk hQ
  intro g' h' F' N' B' X' T'
  (try dsimp only)
  (try k_fold)
  k_steps
  · ((try dsimp only); (try k_unfold); (try dsimp only); refine' doneL (by k_asm) (by k_asm) (by kcj_all) (by k_mem) ?_ (by k_all))
    · unfold divL firstV lastV
      rw [if_pos (by assumption), if_pos (by assumption)]
      exact .cons _ _ .nil
  · ((try dsimp only); (try k_unfold); (try dsimp only); refine' doneL (by k_asm) (by k_asm) (by kcj_all) (by k_mem) ?_ (by k_all))
    · unfold divL firstV lastV
      rw [if_pos (by assumption), if_neg (by assumption)]
      exact .cons _ _ .nil
  · have hz := sizeV_bd hx0 hx2 hx3 hx1
    (rename IsRange _ _ _ _ _ _ _ _ => hR)
    (rename ¬ (_ < _) => hlt)
    have hb1 : -101 ≤ firstV x0 x1 y0 ∧ firstV x0 x1 y0 ≤ 100 := by unfold firstV; split <;> omega
    have hb2 : -101 ≤ lastV x0 x1 y1 ∧ lastV x0 x1 y1 ≤ 101 := by unfold lastV; split <;> omega
    change IsRange _ _ (firstV x0 x1 y0) (lastV x0 x1 y1 + 1) _ _ _ _ at hR
    refine LCt.CompSrcT.range (by rfl) (by k_asm) (by k_asm) hR (small_one (by omega) (by omega) (by omega) (by omega)) (rangeSize_nat _ _) (by rw [PySem.sizeLine_eq]; omega) ?_
    intro g2
    refine restT_range (fun y => decide (y ≠ 0)) (fun y => y) ?_ ?_
    · intro k t I oI C oC D m₂ ys h tk E' hlo hhi hC hx F' N' off' ne'
      (try simp only [LCg.Off3, and_true] at off')
      k_steps
      all_goals first | exact kcf_el rfl rfl rfl | exact decide_eq_false (not_not_intro (by assumption))
    · intro ys hi
      k_steps
      ((try dsimp only); (try k_unfold); (try dsimp only); refine' doneL (by k_asm) (by k_asm) (by kcj_all) (by k_mem) ?_ (by k_all))
      unfold divL
      rw [if_neg (by exact hlt)]
      exact hi
-- CBeA
def can0 (x0 x1 y0 y1 z0 z1 v : Int) : Bool := ! decide (((((divL x0 x1 y0 y1).map fun y => v - y * truncV v y).filter fun z => decide (z0 ≤ z) && decide (z ≤ z1)).map fun z => z) = [])
local macro_rules | `(tactic| walk_at "call ref") => `(tactic| (k_here; (with_reducible show wpAny _ _ (call (Value.ref 159) [_, _]) _ _ _); k_dflt (refine' Fn.useL (div_ok _ _ _ _ _ _ _ _ _ _ _ _ _ _ _ _ _ _ ?g1 ?g2 ?g3 ?g4 ?g5 ?g6 ?g7 ?g8) ?B ?F ?X ?N ?T ?hk ?hd ?hu ?hs ?_; (case B => k_asm); (case F => k_asm); (case X => k_asm); (case N => k_asm); (case T => k_asm); (case hk => first | exact rfl | assumption); (case hs => kcj_all); (case hd => ktr_room); (case hu => ktr_units); (case g1 => first | assumption | omega); (case g2 => first | assumption | omega); (case g3 => first | assumption | omega); (case g4 => first | assumption | omega); (case g5 => first | assumption | omega); (case g6 => first | assumption | omega); (case g7 => first | assumption | omega); (case g8 => first | assumption | omega); k_whole); intro l9 vs9 n9 h9 tk9 F9 N9 ne9 i9; (try simp only [LCg.Off1, and_true] at ne9); (try dsimp only); (try k_sweep)))
local macro_rules | `(tactic| walk_at "call ref") => `(tactic| (k_here; (with_reducible show wpAny _ _ (call (Value.ref 70) [_, _]) _ _ _); k_dflt (refine' Fn.useI (trunc_ok _ _ _ _ _ _ _ _ ?g1 ?g2 ?g3) ?B ?F ?X ?N ?T ?hk ?hd ?hu ?hs ?_; (case B => k_asm); (case F => k_asm); (case X => k_asm); (case N => k_asm); (case T => k_asm); (case hk => first | exact rfl | assumption); (case hs => kcj_all); (case hd => ktr_room); (case hu => ktr_units); (case g1 => first | assumption | omega); (case g2 => first | assumption | omega); (case g3 => first | assumption | omega); k_whole); intro t9 h9 tk9 F9 N9; (try dsimp only); (try k_sweep)))
local macro_rules | `(tactic| walk_at "exec Assign cons ListComp") => `(tactic| (k_here; k_dflt (refine' LCg.Assign_ListComp_U (F₀ := ?F) ?z0 ?z1 ?z2 ?z3 ?z4 ?z5 ?z6 ?z7 ?z8 ?_ ?g; (case F => k_asm); (case z0 => rfl); (case z1 => with_unfolding_all rfl); (case z2 => with_unfolding_all rfl); (case z3 => decide); (case z4 => rfl); (case z5 => decide); (case z6 => rfl); (case z7 => rfl); (case z8 => rfl); (case g => intro _; rfl))))
theorem divL_len {x0 x1 y0 y1 : Int} (hx0 : -100 ≤ x0) (hx1 : x1 ≤ 100) (hx2 : x0 ≤ 100) (hx3 : -100 ≤ x1) (hy0 : -100 ≤ y0) (hy1 : y1 ≤ 100) (hy2 : y0 ≤ 100) (hy3 : -100 ≤ y1) : (divL x0 x1 y0 y1).length ≤ 300 := by
  have hs := sizeV_bd hx0 hx2 hx3 hx1
  have hb1 : -101 ≤ firstV x0 x1 y0 ∧ firstV x0 x1 y0 ≤ 100 := by unfold firstV; split <;> omega
  have hb2 : -101 ≤ lastV x0 x1 y1 ∧ lastV x0 x1 y1 ≤ 101 := by unfold lastV; split <;> omega
  unfold divL
  split
  · simp
  · rw [List.length_map]
    refine Nat.le_trans (List.length_filter_le _ _) ?_
    rw [rangeKs_length]; omega
theorem mem_divL {x0 x1 y0 y1 y : Int} (hx0 : -100 ≤ x0) (hx1 : x1 ≤ 100) (hx2 : x0 ≤ 100) (hx3 : -100 ≤ x1) (hy0 : -100 ≤ y0) (hy1 : y1 ≤ 100) (hy2 : y0 ≤ 100) (hy3 : -100 ≤ y1)  (hy : y0 ≤ y1) (h : y ∈ divL x0 x1 y0 y1) : y ≠ 0 ∧ -101 ≤ y ∧ y ≤ 101 := by
  have hs := sizeV_bd hx0 hx2 hx3 hx1
  have hb1 : -101 ≤ firstV x0 x1 y0 ∧ firstV x0 x1 y0 ≤ 100 := by unfold firstV; split <;> omega
  have hb2 : -101 ≤ lastV x0 x1 y1 ∧ lastV x0 x1 y1 ≤ 101 := by unfold lastV; split <;> omega
  unfold divL at h
  split at h
  · rename_i hlt
    unfold lastV firstV at hlt
    rw [List.mem_singleton] at h
    subst h
    split at hlt <;> split at hlt <;> split <;> omega
  · simp only [List.map_id', List.mem_filter, decide_eq_true_eq] at h
    have := mem_rangeKs h.1
    omega
set_option maxRecDepth 100000 in
set_option maxHeartbeats 800000 in
theorem can0_ok (w : World) (mean : ExcName → Option Value) (mg mb : Str → Option Value) (x d bx t0 t1 t2 : Addr) (n : Nat) (x0 x1 y0 y1 z0 z1 v : Int) (u0 u1 u2 u3 u4 u5 us uv s1 s2 s3 s4 : Tok) (v1 v2 v3 v4 : Value)
   (hx0 : -100 ≤ x0) (hx1 : x1 ≤ 100) (hx2 : x0 ≤ 100) (hx3 : -100 ≤ x1) (hy0 : -100 ≤ y0) (hy1 : y1 ≤ 100) (hy2 : y0 ≤ 100) (hy3 : -100 ≤ y1) (hyy : y0 ≤ y1) (hv0 : -100 ≤ v) (hv1 : v ≤ 100) :
   (Fn 6 w mean mg mb 199 [.ref x, .ref bx, .int 0 us, .int v uv] ((x, instObj 216 d) :: (d, remD w.params s1 s2 s3 s4 v1 v2 v3 v4) :: boxO bx t0 t1 t2 n x0 x1 y0 y1 z0 z1 u0 u1 u2 u3 u4 u5)
     (PBool (can0 x0 x1 y0 y1 z0 z1 v))) := by
  unfold Fn
  k_fill
  (intro dp un gd cn cs a0 ccd cl outer A₀ base h₀ L m s Q E B F X N T hk hd hu hQ)
  k_dflt (refine' enterGC B F X N T ?kA ?kF ?kK ?k6 ?k7 ?k8 ?k9 ?kB ?kD hQ ?_ ?c2 ?c3 ?c4; (case kA => exact rfl); (case kF => exact rfl); (case kK => exact hk); (case k6 => k_is); (case k7 => k_is); (case k8 => ktr_room); (case k9 => exact BindsTo.of_eq rfl); (case kB => exact rfl); (case kD => decide +kernel); (case c2 => exact rfl); (case c3 => exact rfl); (case c4 => exact rfl); k_whole)
  clear B F X N T hk hQ
  intro g' h' tk' cells' F' N' Y' B' X' T' l1
  (try k_lt l1)
  k_cells Y'
  (try simp only [boxO, List.cons_append, List.nil_append] at N')
  (try dsimp only)
  (try k_fold)
  k_steps
  refine LCg.CompSrc.ledger (by rfl) (by k_asm) (by k_asm) (by k_mem) (by rw [PySem.sizeLine_eq, List.size_toArray, IntsAre.length (by assumption)]; have := divL_len hx0 hx1 hx2 hx3 hy0 hy1 hy2 hy3; omega) ?_
  intro g2
  refine kcf_list (fun y => v - y * truncV v y) (by assumption) ?_ ?_
  · intro k t I oI C oC D m₂ ys h tk E' hk hC hx F' N' off' ne' hm
    (try simp only [LCg.Off3, and_true] at off')
    have hkb := mem_divL hx0 hx1 hx2 hx3 hy0 hy1 hy2 hy3 hyy hk
    have hk0 := hkb.1
    k_steps
  · unfold KPfDone
    intro ys hi
    k_steps
    refine LCt.CompSrcT.ledger (by rfl) (by k_asm) (by k_asm) (by k_mem) (by rw [PySem.sizeLine_eq, List.size_toArray, IntsAre.length hi, List.length_map]; have := divL_len hx0 hx1 hx2 hx3 hy0 hy1 hy2 hy3; omega) ?_
    intro g3
    refine restT_list (fun z => decide (z0 ≤ z) && decide (z ≤ z1)) (fun z => z) hi ?_ ?_
    · intro k t I oI C oC D m₂ ys2 h tk E' hk hC hx F' N' off' ne'
      (try simp only [LCg.Off3, and_true] at off')
      k_steps
      all_goals first | exact kcf_el rfl rfl rfl | (simp only [Bool.and_eq_true, Bool.and_eq_false_iff, decide_eq_true_eq, decide_eq_false_iff_not]; omega)
    · intro ys2 hi2
      k_steps
      (all_goals ((try dsimp only); (try k_unfold); (try dsimp only))); (all_goals (first | refine' doneI ?_ (by k_asm) (by k_asm) (by kcj_all) | refine' doneB ?_ (by k_asm) (by k_asm) (by kcj_all)))
      rfl
-- CBeB
def ableL (x0 x1 y0 y1 v : Int) : List Int := ((divL x0 x1 y0 y1).filter fun y => decide (absV v < absV y)).map fun y => y
def can2 (x0 x1 y0 y1 v : Int) : Bool := ! decide (((ableL x0 x1 y0 y1 v).filter fun y => hasV x0 x1 (absV y) v).map (fun y => y) = [])
local macro_rules | `(tactic| walk_at "call ref") => `(tactic| (k_here; (with_reducible show wpAny _ _ (call (Value.ref 194) [_, _, _, _]) _ _ _); k_dflt (refine' Fn.useB (has_ok _ _ _ _ _ _ _ _ _ _ _ _ _ _ ?g1 ?g2) ?B ?F ?X ?N ?T ?hk ?hd ?hu ?hs ?_; (case B => k_asm); (case F => k_asm); (case X => k_asm); (case N => k_asm); (case T => k_asm); (case hk => first | exact rfl | assumption); (case hs => kcj_all); (case hd => ktr_room); (case hu => ktr_units); (case g1 => first | assumption | omega); (case g2 => first | assumption | omega); k_whole); intro h9 tk9 F9 N9; (try dsimp only); (try k_sweep)))
local macro_rules | `(tactic| walk_at "exec Assign cons ListComp") => `(tactic| (k_here; k_dflt (refine' LCt.Assign_ListComp_T (F₀ := ?F) ?z0 ?z1 ?z2 ?z3 ?z4 ?z5 ?z6 ?z7 ?z8 ?_ ?g; (case F => k_asm); (case z0 => rfl); (case z1 => with_unfolding_all rfl); (case z2 => with_unfolding_all rfl); (case z3 => decide); (case z4 => rfl); (case z5 => decide); (case z6 => rfl); (case z7 => rfl); (case z8 => rfl); (case g => intro _; rfl))))
set_option maxRecDepth 100000 in
set_option maxHeartbeats 8000000 in
theorem can2_ok (w : World) (mean : ExcName → Option Value) (mg mb : Str → Option Value) (x d bx t0 t1 t2 : Addr) (n : Nat) (x0 x1 y0 y1 z0 z1 v : Int) (u0 u1 u2 u3 u4 u5 us uv s1 s2 s3 s4 : Tok) (v1 v2 v3 v4 : Value)
   (hx0 : -100 ≤ x0) (hx1 : x1 ≤ 100) (hx2 : x0 ≤ 100) (hx3 : -100 ≤ x1) (hy0 : -100 ≤ y0) (hy1 : y1 ≤ 100) (hy2 : y0 ≤ 100) (hy3 : -100 ≤ y1) (hyy : y0 ≤ y1) :
   (Fn 6 w mean mg mb 199 [.ref x, .ref bx, .int 2 us, .int v uv] ((x, instObj 216 d) :: (d, remD w.params s1 s2 s3 s4 v1 v2 v3 v4) :: boxO bx t0 t1 t2 n x0 x1 y0 y1 z0 z1 u0 u1 u2 u3 u4 u5)
     (PBool (can2 x0 x1 y0 y1 v))) := by
  unfold Fn
  k_fill
  (intro dp un gd cn cs a0 ccd cl outer A₀ base h₀ L m s Q E B F X N T hk hd hu hQ)
  k_dflt (refine' enterGC B F X N T ?kA ?kF ?kK ?k6 ?k7 ?k8 ?k9 ?kB ?kD hQ ?_ ?c2 ?c3 ?c4; (case kA => exact rfl); (case kF => exact rfl); (case kK => exact hk); (case k6 => k_is); (case k7 => k_is); (case k8 => ktr_room); (case k9 => exact BindsTo.of_eq rfl); (case kB => exact rfl); (case kD => decide +kernel); (case c2 => exact rfl); (case c3 => exact rfl); (case c4 => exact rfl); k_whole)
  clear B F X N T hk hQ
  intro g' h' tk' cells' F' N' Y' B' X' T' l1
  (try k_lt l1)
  k_cells Y'
  (try simp only [boxO, List.cons_append, List.nil_append] at N')
  (try dsimp only)
  (try k_fold)
  k_steps
  refine LCt.CompSrcT.ledger (by rfl) (by k_asm) (by k_asm) (by k_mem) (by rw [PySem.sizeLine_eq, List.size_toArray, IntsAre.length (by assumption)]; have := divL_len hx0 hx1 hx2 hx3 hy0 hy1 hy2 hy3; omega) ?_
  intro g2
  refine restT_list (fun y => decide (absV v < absV y)) (fun y => y) (by assumption) ?_ ?_
  · intro k t I oI C oC D m₂ ys h tk E' hk hC hx F' N' off' ne'
    (try simp only [LCg.Off3, and_true] at off')
    k_steps
    all_goals first | exact kcf_el rfl rfl rfl | exact decide_eq_true (by assumption) | exact decide_eq_false (by assumption)
  · intro ys hi
    k_steps
    refine LCt.CompSrcT.ledger (by rfl) (by k_asm) (by k_asm) (by k_mem) (by rw [PySem.sizeLine_eq, List.size_toArray, IntsAre.length hi, List.length_map]; have := divL_len hx0 hx1 hx2 hx3 hy0 hy1 hy2 hy3; have := List.length_filter_le (fun y => decide (absV v < absV y)) (divL x0 x1 y0 y1); omega) ?_
    intro g3
    refine restT_list (fun y => hasV x0 x1 (absV y) v) (fun y => y) hi ?_ ?_
    · intro k t I oI C oC D m₂ ys2 h tk E' hk hC hx F' N' off' ne'
      (try simp only [LCg.Off3, and_true] at off')
      have hk1 : ∃ y ∈ divL x0 x1 y0 y1, y = k := by
        simp only [List.map_id', List.mem_filter] at hk
        exact ⟨k, hk.1, rfl⟩
      obtain ⟨k', hk2, rfl⟩ := hk1
      have hkb := mem_divL hx0 hx1 hx2 hx3 hy0 hy1 hy2 hy3 hyy hk2
      have hka : 0 < (if k' < 0 then -k' else k') ∧ (if k' < 0 then -k' else k') ≤ 1000 := by split <;> omega
      have hk3 := hka.1
      have hk4 := hka.2
      k_steps
      all_goals first | exact kcf_el rfl rfl rfl | assumption
    · intro ys2 hi2
      k_steps
      (all_goals ((try dsimp only); (try k_unfold); (try dsimp only))); (all_goals (first | refine' doneI ?_ (by k_asm) (by k_asm) (by kcj_all) | refine' doneB ?_ (by k_asm) (by k_asm) (by kcj_all)))
      rfl
-- CBeC
def mx3 (a b c : Int) : Int := if b > a then (if c > b then c else b) else (if c > a then c else a)
def mn3 (a b c : Int) : Int := if b < a then (if c < b then c else b) else (if c < a then c else a)
section
variable {prog : Program} {w : World} {A : Around} {E : Value → Shared → Prop} {s : Shared} {h₀ : Heap} {L : Addr} {m : Str → Option Value} {news : List (Addr × Obj)}
theorem max3_N {a b c : Int} {t u x : Tok} {Q : Value → Shared → Prop} (hh : A.handled = none) (F : Fr h₀ L s.heap m) (N : News h₀ L s.heap news)
    (h : ∀ h' tk t', Fr h₀ L h' m → News h₀ L h' news → Q (.int (mx3 a b c) t') { s with heap := h', toks := tk }) :
    wpAny (model prog w) A (call (.builtin "max") [.int a t, .int b u, .int c x]) Q E s :=
  max_three_ints hh fun h' tk hk => by
    have := fun t' => h h' tk t' (F.grownK hk) (N.grown hk)
    unfold mx3 at this
    split <;> split <;> rename_i c1 c2 <;> simp only [c1, c2, if_true, if_false] at this <;> exact this _
theorem min3_N {a b c : Int} {t u x : Tok} {Q : Value → Shared → Prop} (hh : A.handled = none) (F : Fr h₀ L s.heap m) (N : News h₀ L s.heap news)
    (h : ∀ h' tk t', Fr h₀ L h' m → News h₀ L h' news → Q (.int (mn3 a b c) t') { s with heap := h', toks := tk }) :
    wpAny (model prog w) A (call (.builtin "min") [.int a t, .int b u, .int c x]) Q E s :=
  min_three_ints hh fun h' tk hk => by
    have := fun t' => h h' tk t' (F.grownK hk) (N.grown hk)
    unfold mn3 at this
    split <;> split <;> rename_i c1 c2 <;> simp only [c1, c2, if_true, if_false] at this <;> exact this _
end
local macro_rules | `(tactic| walk_at "call builtin:max") => `(tactic| (k_here; (with_reducible show wpAny _ _ (call (Value.builtin _) [Value.int _ _, Value.int _ _, Value.int _ _]) _ _ _); k_dflt (refine' max3_N ?hh ?F ?N ?_; (case hh => rfl); (case F => k_asm); (case N => k_asm); k_whole); intro h' tk' t' F' N'; (try dsimp only)))
local macro_rules | `(tactic| walk_at "call builtin:min") => `(tactic| (k_here; (with_reducible show wpAny _ _ (call (Value.builtin _) [Value.int _ _, Value.int _ _, Value.int _ _]) _ _ _); k_dflt (refine' min3_N ?hh ?F ?N ?_; (case hh => rfl); (case F => k_asm); (case N => k_asm); k_whole); intro h' tk' t' F' N'; (try dsimp only)))
def lo1 (x0 z0 v : Int) : Int := mx3 z0 (1 - absV v) (if 0 < x0 then 0 else x0)
def hi1 (x1 z1 v : Int) : Int := mn3 z1 (absV v - 1) (if 0 > x1 then 0 else x1)
theorem mx3_le {a b c z : Int} : mx3 a b c ≤ z ↔ a ≤ z ∧ b ≤ z ∧ c ≤ z := by unfold mx3; split <;> split <;> omega
theorem le_mn3 {a b c z : Int} : z ≤ mn3 a b c ↔ z ≤ a ∧ z ≤ b ∧ z ≤ c := by unfold mn3; split <;> split <;> omega
theorem lohi1 {x0 x1 z0 z1 v k : Int} (h1 : lo1 x0 z0 v ≤ k) (h2 : k ≤ hi1 x1 z1 v) : 0 < absV v := by
  have a := (mx3_le.mp h1).2.1
  have b := (le_mn3.mp h2).2.1
  omega
theorem lohi2 {x0 x1 z0 z1 v k : Int} (h1 : lo1 x0 z0 v ≤ k) (h2 : k < lo1 x0 z0 v + ((hi1 x1 z1 v + 1 - lo1 x0 z0 v).toNat : Int)) : 0 < absV v := by
  refine lohi1 h1 (x1 := x1) (z1 := z1) ?_
  generalize lo1 x0 z0 v = a at *
  generalize hi1 x1 z1 v = b at *
  omega
theorem absV_le {v : Int} (h1 : -100 ≤ v) (h2 : v ≤ 100) : 0 ≤ absV v ∧ absV v ≤ 100 := by unfold absV; split <;> omega
theorem absV_le1000 {v : Int} (h1 : -100 ≤ v) (h2 : v ≤ 100) : (if v < 0 then -v else v) ≤ 1000 := by split <;> omega
theorem lo1_bd {x0 z0 v : Int} (hz : -100 ≤ z0) (hz' : z0 ≤ 100) (hx : x0 ≤ 100) (h1 : -100 ≤ v) (h2 : v ≤ 100) : -200 ≤ lo1 x0 z0 v ∧ lo1 x0 z0 v ≤ 200 := by
  have := absV_le h1 h2
  unfold lo1 mx3; split <;> split <;> omega
theorem hi1_bd {x1 z1 v : Int} (hz : -100 ≤ z1) (hz' : z1 ≤ 100) (hx : -100 ≤ x1) (h1 : -100 ≤ v) (h2 : v ≤ 100) : -200 ≤ hi1 x1 z1 v ∧ hi1 x1 z1 v ≤ 200 := by
  have := absV_le h1 h2
  unfold hi1 mn3; split <;> split <;> omega
def can1 (x0 x1 z0 z1 v : Int) : Bool := ! decide (((rangeKs (lo1 x0 z0 v) (hi1 x1 z1 v + 1 - lo1 x0 z0 v).toNat).filter fun z => hasV x0 x1 (absV v) z).map (fun z => z) = [])
set_option maxRecDepth 100000 in
set_option maxHeartbeats 8000000 in
theorem can1_ok (w : World) (mean : ExcName → Option Value) (mg mb : Str → Option Value) (x d bx t0 t1 t2 : Addr) (n : Nat) (x0 x1 y0 y1 z0 z1 v : Int) (u0 u1 u2 u3 u4 u5 us uv s1 s2 s3 s4 : Tok) (v1 v2 v3 v4 : Value)
   (hx2 : x0 ≤ 100) (hx3 : -100 ≤ x1) (hz0 : -100 ≤ z0) (hz1 : z1 ≤ 100) (hz2 : z0 ≤ 100) (hz3 : -100 ≤ z1) (hv0 : -100 ≤ v) (hv1 : v ≤ 100) :
   (Fn 6 w mean mg mb 199 [.ref x, .ref bx, .int 1 us, .int v uv] ((x, instObj 216 d) :: (d, remD w.params s1 s2 s3 s4 v1 v2 v3 v4) :: boxO bx t0 t1 t2 n x0 x1 y0 y1 z0 z1 u0 u1 u2 u3 u4 u5)
     (PBool (can1 x0 x1 z0 z1 v))) := by
  unfold Fn
  k_fill
  (intro dp un gd cn cs a0 ccd cl outer A₀ base h₀ L m s Q E B F X N T hk hd hu hQ)
  k_dflt (refine' enterGC B F X N T ?kA ?kF ?kK ?k6 ?k7 ?k8 ?k9 ?kB ?kD hQ ?_ ?c2 ?c3 ?c4; (case kA => exact rfl); (case kF => exact rfl); (case kK => exact hk); (case k6 => k_is); (case k7 => k_is); (case k8 => ktr_room); (case k9 => exact BindsTo.of_eq rfl); (case kB => exact rfl); (case kD => decide +kernel); (case c2 => exact rfl); (case c3 => exact rfl); (case c4 => exact rfl); k_whole)
  clear B F X N T hk hQ
  intro g' h' tk' cells' F' N' Y' B' X' T' l1
  (try k_lt l1)
  k_cells Y'
  (try simp only [boxO, List.cons_append, List.nil_append] at N')
  (try dsimp only)
  (try k_fold)
  k_steps
  have hb1 := lo1_bd hz0 hz2 hx2 hv0 hv1
  have hb2 := hi1_bd hz3 hz1 hx3 hv0 hv1
  (rename IsRange _ _ _ _ _ _ _ _ => hR)
  change IsRange _ _ (lo1 x0 z0 v) (hi1 x1 z1 v + 1) _ _ _ _ at hR
  refine LCt.CompSrcT.range (by rfl) (by k_asm) (by k_asm) hR (small_one (by omega) (by omega) (by omega) (by omega)) (rangeSize_nat _ _) (by rw [PySem.sizeLine_eq]; omega) ?_
  intro g2
  refine restT_range (fun z => hasV x0 x1 (absV v) z) (fun z => z) ?_ ?_
  · intro k t I oI C oC D m₂ ys h tk E' hlo hhi hC hx F' N' off' ne'
    (try simp only [LCg.Off3, and_true] at off')
    have hk1 : 0 < absV v := lohi2 hlo hhi
    have hk2 := absV_le hv0 hv1
    have hk3 : 0 < (if v < 0 then -v else v) := hk1
    have hk4 : (if v < 0 then -v else v) ≤ 1000 := absV_le1000 hv0 hv1
    k_steps
    all_goals first | exact kcf_el rfl rfl rfl | assumption
  · intro ys hi
    k_steps
    (all_goals ((try dsimp only); (try k_unfold); (try dsimp only))); (all_goals (first | refine' doneI ?_ (by k_asm) (by k_asm) (by kcj_all) | refine' doneB ?_ (by k_asm) (by k_asm) (by kcj_all)))
    rfl
-- CTold
def row0 (x0 x1 y0 y1 z0 z1 : Int) : List Int := ((rangeKs x0 (x1 + 1 - x0).toNat).filter fun v => can0 x0 x1 y0 y1 z0 z1 v).map fun v => v
def row1 (x0 x1 y0 y1 z0 z1 : Int) : List Int := ((rangeKs y0 (y1 + 1 - y0).toNat).filter fun v => can1 x0 x1 z0 z1 v).map fun v => v
def row2 (x0 x1 y0 y1 z0 z1 : Int) : List Int := ((rangeKs z0 (z1 + 1 - z0).toNat).filter fun v => can2 x0 x1 y0 y1 v).map fun v => v
def PRows (r0 r1 r2 : List Int) (v : Value) (made : List (Addr × Obj)) : Prop :=
  ∃ l a b c n va na vb nb vc nc, v = .ref l ∧ made = [(l, lstOf [.ref a, .ref b, .ref c] n), (a, lstOf va na), (b, lstOf vb nb), (c, lstOf vc nc)] ∧ IntsAre va r0 ∧ IntsAre vb r1 ∧ IntsAre vc r2
local macro_rules | `(tactic| walk_at "exec For Tuple Call cons nil") => `(tactic| (k_here; (rename Fr _ _ _ _ => lF'); (with_unfolding_all refine' For_turns lF' ?_; k_whole)))
local macro_rules | `(tactic| walk_at "call ref") => `(tactic| (k_here; (with_reducible show wpAny _ _ (call (Value.ref _) _) _ _ _); refine Stop.out ?_))
local macro_rules | `(tactic| walk_at "CompSrcT") => `(tactic| (k_here; refine Stop.out ?_))
local macro_rules | `(tactic| walk_at "CompSrc") => `(tactic| (k_here; refine Stop.out ?_))
set_option maxRecDepth 100000 in
set_option maxHeartbeats 8000000 in
theorem told_ok (w : World) (mean : ExcName → Option Value) (mg mb : Str → Option Value) (x d bx t0 t1 t2 : Addr) (n : Nat) (x0 x1 y0 y1 z0 z1 : Int) (u0 u1 u2 u3 u4 u5 s1 s2 s3 s4 : Tok) (v1 v2 v3 v4 : Value)
   (hx0 : -9 ≤ x0) (hx1 : x1 ≤ 9) (hxx : x0 ≤ x1) (hy0 : -12 ≤ y0) (hy1 : y1 ≤ 12) (hyy : y0 ≤ y1) (hz0 : -20 ≤ z0) (hz1 : z1 ≤ 20) (hzz : z0 ≤ z1) :
   (Fn 9 w mean mg mb 251 [.ref x, .ref bx] ((x, instObj 216 d) :: (d, remD w.params s1 s2 s3 s4 v1 v2 v3 v4) :: boxO bx t0 t1 t2 n x0 x1 y0 y1 z0 z1 u0 u1 u2 u3 u4 u5)
     (PRows (row0 x0 x1 y0 y1 z0 z1) (row1 x0 x1 y0 y1 z0 z1) (row2 x0 x1 y0 y1 z0 z1))) := by
  have hX : -20 ≤ x0 ∧ x1 ≤ 20 ∧ x0 ≤ x1 := ⟨Int.le_trans (by decide) hx0, Int.le_trans hx1 (by decide), hxx⟩
  have hY : -20 ≤ y0 ∧ y1 ≤ 20 ∧ y0 ≤ y1 := ⟨Int.le_trans (by decide) hy0, Int.le_trans hy1 (by decide), hyy⟩
  have hZ : -20 ≤ z0 ∧ z1 ≤ 20 ∧ z0 ≤ z1 := ⟨hz0, hz1, hzz⟩
  obtain ⟨wx0, wx1, wx2, wx3⟩ := wide100 hX
  obtain ⟨wy0, wy1, wy2, wy3⟩ := wide100 hY
  obtain ⟨wz0, wz1, wz2, wz3⟩ := wide100 hZ
  unfold Fn
  k_fill
  (intro dp un gd cn cs a0 ccd cl outer A₀ base h₀ L m s Q E B F X N T hk hd hu hQ)
  k_dflt (refine' enterGC B F X N T ?kA ?kF ?kK ?k6 ?k7 ?k8 ?k9 ?kB ?kD hQ ?_ ?c2 ?c3 ?c4; (case kA => exact rfl); (case kF => exact rfl); (case kK => exact hk); (case k6 => k_is); (case k7 => k_is); (case k8 => ktr_room); (case k9 => exact BindsTo.of_eq rfl); (case kB => exact rfl); (case kD => decide +kernel); (case c2 => exact rfl); (case c3 => exact rfl); (case c4 => exact rfl); k_whole)
  clear B F X N T hk hQ
  intro g' h' tk' cells' F' N' Y' B' X' T' l1
  (try k_lt l1)
  k_cells Y'
  (try simp only [boxO, List.cons_append, List.nil_append] at N')
  (try dsimp only)
  (try k_fold)
  k_steps
  (rename IsRange _ _ _ _ _ _ _ _ => hR)
  refine Stop.intro ?_
  refine LCt.CompSrcT.range (by rfl) (by k_asm) (by k_asm) hR (rng_small hX) (rangeSize_nat _ _) (rng_size hX) ?_
  intro g2
  refine restT_range (fun v => can0 x0 x1 y0 y1 z0 z1 v) (fun v => v) ?_ ?_
  · intro k t I oI C oC D m₂ ys h tk E' hlo hhi hC hx F' N' off' ne'
    have hk1 : x0 ≤ k := hlo
    obtain ⟨hk2, hk3, hk4⟩ := rng_mem hX hlo hhi
    clear hR
    k_steps
    refine Stop.intro ?_
    k_dflt (refine' Fn.useB (can0_ok _ _ _ _ _ _ _ _ _ _ _ _ _ _ _ _ _ _ _ _ _ _ _ _ _ _ _ _ _ _ _ _ _ _ ?g0 ?g1 ?g2 ?g3 ?g4 ?g5 ?g6 ?g7 ?g8 ?g9 ?g10) ?B ?F ?X ?N ?T ?hk ?hd ?hu ?hs ?_; (case B => k_asm); (case F => k_asm); (case X => k_asm); (case N => k_asm); (case T => k_asm); (case hk => first | exact rfl | assumption); (case hs => kcj_all); (case hd => ktr_room); (case hu => ktr_units); (case g0 => first | assumption | omega); (case g1 => first | assumption | omega); (case g2 => first | assumption | omega); (case g3 => first | assumption | omega); (case g4 => first | assumption | omega); (case g5 => first | assumption | omega); (case g6 => first | assumption | omega); (case g7 => first | assumption | omega); (case g8 => first | assumption | omega); (case g9 => first | assumption | omega); (case g10 => first | assumption | omega); k_whole)
    intro h9 tk9 F9 N9
    (try dsimp only)
    (try k_sweep)
    k_steps
    all_goals first | exact kcf_el rfl rfl rfl | assumption
  · intro ysA hiA
    unfold LCg.FinE
    intro DA hA tkA FA NA oA
    (try simp only [List.nil_append, List.cons_append] at NA)
    have qzA : @Ne Nat _ DA := oA.2.2.2.1; have qxA : @Ne Nat _ DA := oA.1; have qyA : @Ne Nat _ DA := oA.2.1; have qA : @Ne Nat _ DA := oA.2.2.1
    (try dsimp only)
    k_steps
    (rename IsRange _ _ _ _ _ _ _ _ => hR)
    refine Stop.intro ?_
    refine LCt.CompSrcT.range (by rfl) (by k_asm) (by k_asm) hR (rng_small hY) (rangeSize_nat _ _) (rng_size hY) ?_
    intro g2
    refine restT_range (fun v => can1 x0 x1 z0 z1 v) (fun v => v) ?_ ?_
    · intro k t I oI C oC D m₂ ys h tk E' hlo hhi hC hx F' N' off' ne'
      have hk1 : y0 ≤ k := hlo
      obtain ⟨hk2, hk3, hk4⟩ := rng_mem hY hlo hhi
      clear hR
      k_steps
      refine Stop.intro ?_
      k_dflt (refine' Fn.useB (can1_ok _ _ _ _ _ _ _ _ _ _ _ _ _ _ _ _ _ _ _ _ _ _ _ _ _ _ _ _ _ _ _ _ _ _ ?g0 ?g1 ?g2 ?g3 ?g4 ?g5 ?g6 ?g7) ?B ?F ?X ?N ?T ?hk ?hd ?hu ?hs ?_; (case B => k_asm); (case F => k_asm); (case X => k_asm); (case N => k_asm); (case T => k_asm); (case hk => first | exact rfl | assumption); (case hs => kcj_all); (case hd => ktr_room); (case hu => ktr_units); (case g0 => first | assumption | omega); (case g1 => first | assumption | omega); (case g2 => first | assumption | omega); (case g3 => first | assumption | omega); (case g4 => first | assumption | omega); (case g5 => first | assumption | omega); (case g6 => first | assumption | omega); (case g7 => first | assumption | omega); k_whole)
      intro h9 tk9 F9 N9
      (try dsimp only)
      (try k_sweep)
      k_steps
      all_goals first | exact kcf_el rfl rfl rfl | assumption
    · intro ysB hiB
      unfold LCg.FinE
      intro DB hB tkB FB NB oB
      (try simp only [List.nil_append, List.cons_append] at NB)
      have qzB : @Ne Nat _ DB := oB.2.2.2.2.1; have qxB : @Ne Nat _ DB := oB.1; have qyB : @Ne Nat _ DB := oB.2.1; have qB : @Ne Nat _ DB := oB.2.2.2.1
      (try dsimp only)
      k_steps
      (rename IsRange _ _ _ _ _ _ _ _ => hR)
      refine Stop.intro ?_
      refine LCt.CompSrcT.range (by rfl) (by k_asm) (by k_asm) hR (rng_small hZ) (rangeSize_nat _ _) (rng_size hZ) ?_
      intro g2
      refine restT_range (fun v => can2 x0 x1 y0 y1 v) (fun v => v) ?_ ?_
      · intro k t I oI C oC D m₂ ys h tk E' hlo hhi hC hx F' N' off' ne'
        have hk1 : z0 ≤ k := hlo
        obtain ⟨hk2, hk3, hk4⟩ := rng_mem hZ hlo hhi
        clear hR
        k_steps
        refine Stop.intro ?_
        k_dflt (refine' Fn.useB (can2_ok _ _ _ _ _ _ _ _ _ _ _ _ _ _ _ _ _ _ _ _ _ _ _ _ _ _ _ _ _ _ _ _ _ _ ?g0 ?g1 ?g2 ?g3 ?g4 ?g5 ?g6 ?g7 ?g8) ?B ?F ?X ?N ?T ?hk ?hd ?hu ?hs ?_; (case B => k_asm); (case F => k_asm); (case X => k_asm); (case N => k_asm); (case T => k_asm); (case hk => first | exact rfl | assumption); (case hs => kcj_all); (case hd => ktr_room); (case hu => ktr_units); (case g0 => first | assumption | omega); (case g1 => first | assumption | omega); (case g2 => first | assumption | omega); (case g3 => first | assumption | omega); (case g4 => first | assumption | omega); (case g5 => first | assumption | omega); (case g6 => first | assumption | omega); (case g7 => first | assumption | omega); (case g8 => first | assumption | omega); k_whole)
        intro h9 tk9 F9 N9
        (try dsimp only)
        (try k_sweep)
        k_steps
        all_goals first | exact kcf_el rfl rfl rfl | assumption
      · intro ysC hiC
        unfold LCg.FinE
        intro DC hC tkC FC NC oC
        (try simp only [List.nil_append, List.cons_append] at NC)
        have qzC : @Ne Nat _ DC := oC.2.2.2.2.2.1; have qxC : @Ne Nat _ DC := oC.1; have qyC : @Ne Nat _ DC := oC.2.1; have qC : @Ne Nat _ DC := oC.2.2.2.2.1
        (try dsimp only)
        k_steps
        (try dsimp only); (try k_unfold); (try dsimp only)
        (rename News _ _ _ _ => hN)
        obtain ⟨rl, hadr⟩ : ∃ l, l = nAddr hN 3 := ⟨_, rfl⟩; simp only [nAddr, List.map_cons, List.getD_cons_succ, List.getD_cons_zero] at hadr; subst hadr
        exact ⟨_, _, _, [(rl, lstOf [.ref DA, .ref DB, .ref DC] 3), (DA, lstOf ysA ysA.length), (DB, lstOf ysB ysB.length), (DC, lstOf ysC ysC.length)], rfl, by k_asm, (fun p hp => hN p ((List.forall_mem_append.mpr ⟨by kcf_all, by kcf_all⟩) p hp)), rl, DA, DB, DC, 3, _, _, _, _, _, _, rfl, rfl, hiA, hiB, hiC⟩
end Mine
end
section
open PySem PySem.W PyProof.Rows PySem.Calls PySem.Spec
namespace Mine
-- CClock
def clockL (hr : Int) (n : Nat) : List Int := (rangeKs 0 n).map fun t => t % hr
theorem clock_step1 {i hr : Int} (h0 : 0 < hr) (h : i % hr + 1 < hr) : i % hr + 1 = (i + 1) % hr := by
  have h1 := Int.emod_nonneg i (Int.ne_of_gt h0)
  have e : i + 1 = (i % hr + 1) + hr * (i / hr) := by have := Int.emod_add_mul_ediv i hr; omega
  rw [e, Int.add_mul_emod_self_left, Int.emod_eq_of_lt (by omega) h]
theorem clock_step2 {i hr : Int} (h0 : 0 < hr) (h : ¬ i % hr + 1 < hr) : 0 = (i + 1) % hr := by
  have h1 := Int.emod_nonneg i (Int.ne_of_gt h0)
  have h2 := Int.emod_lt_of_pos i h0
  have e : i + 1 = hr * (i / hr) + hr := by have := Int.emod_add_mul_ediv i hr; omega
  rw [e, Int.add_emod_right, Int.mul_emod_right]
theorem clockL_succ (hr : Int) (i : Nat) : clockL hr (i + 1) = clockL hr i ++ [(i : Int) % hr] := by
  unfold clockL; rw [rangeKs_succ]; simp
local macro_rules | `(tactic| walk_at "pyIter ref") => `(tactic| (k_here; (with_reducible show wpAny _ _ (pyIter (Value.ref _)) (fun it s₂ => LoopAtV _ _ _ _ _ _ _ _ _ it s₂) _ _); refine Stop.out ?_))
local macro_rules | `(tactic| walk_at "call builtin:list.append") => `(tactic| (k_here; (with_reducible show wpAny _ _ (call (Value.builtin _) [Value.ref _, _]) _ _ _); k_dflt (refine' appL ?F ?N ?U ?z ?_; (case F => k_asm); (case N => k_asm); (case U => k_upd); (case z => first | assumption | omega); k_whole); intro h' F' N'; (try dsimp only)))
set_option maxRecDepth 100000 in
set_option maxHeartbeats 8000000 in
theorem clock_ok (w : World) (mean : ExcName → Option Value) (mg mb : Str → Option Value) (hr : Int) (th tm : Tok) (h1 : 0 < hr) (h2 : hr ≤ 1000) :
   (Fn 2 w mean mg mb 232 [.int hr th, .int 9 tm] [] (PList [] (clockL hr 10))) := by
  unfold Fn
  k_fill
  (intro dp un gd cn cs a0 ccd cl outer A₀ base h₀ L m s Q E B F X N T hk hd hu hQ)
  k_dflt (refine' enterG B F X N T ?kA ?kF ?kK ?k6 ?k7 ?k8 ?k9 ?kB hQ ?_ ?c2 ?c3 ?c4 ?c5; (case kA => exact rfl); (case kF => exact rfl); (case kK => exact hk); (case k6 => k_is); (case k7 => k_is); (case k8 => ktr_room); (case k9 => exact BindsTo.of_eq rfl); (case c5 => decide); (case kB => exact locs rfl); (case c2 => exact rfl); (case c3 => exact rfl); (case c4 => exact rfl); k_whole)
  clear B F X N T hk hQ
  intro g' h' F' N' B' X' T'
  (try dsimp only)
  (try k_fold)
  k_steps
  (rename IsRange _ _ _ _ _ _ _ _ => hR)
  (rename Fr _ _ _ _ => hF)
  (rename News _ _ _ _ => hN)
  obtain ⟨l, hadr⟩ : ∃ l, l = nAddr hN 1 := ⟨_, rfl⟩; simp only [nAddr, List.map_cons, List.getD_cons_succ, List.getD_cons_zero] at hadr; subst hadr
  refine Stop.intro ?_
  refine loopS_range (σ := List Value × Nat × Int × Tok) (n := 10) (fun c => [(l, lstOf c.1 c.2.1)]) (fun c => [("now", .int c.2.2.1 c.2.2.2)]) [] (fun i c => IntsAre c.1 (clockL hr i) ∧ c.2.2.1 = (i : Int) % hr) ([], 0, 0, _)
    rfl hR (by decide) (by decide) hF (fun p hp => hN p (by simp at hp; subst hp; simp)) (List.forall_mem_cons.mpr ⟨rfl, List.forall_mem_nil _⟩) ⟨.nil, by simp⟩ ?_ ?_
  · rintro ⟨vs, n, now, tn⟩ i k t u h tk I oI hk hi ⟨hI, hw⟩ ho F' N'
    (try dsimp only at hI hw ho N' F')
    (try simp only [LCg.Off1, and_true] at ho)
    have hln : vs.length = i := by rw [hI.length]; simp [clockL, rangeKs_length]
    k_steps
    all_goals (show SEnd _ _ _ _ _ _ _ _ _ _ _ _; refine SEnd.intro (vs ++ [.int now tn], n + 1, _, _) (by k_asm) (by k_asm) (by kcj_all) ⟨ho, trivial⟩ (List.forall_mem_cons.mpr ⟨rfl, List.forall_mem_nil _⟩) ?_ ⟨?_, ?_⟩)
    all_goals first
      | exact clock_step1 h1 (by assumption)
      | exact clock_step2 h1 (by assumption)
      | (rw [clockL_succ]; exact ints_snoc hI hw)
      | (intro z h1 h2 _; have h3 := h2 _ (.head _); simp [kstB, h1, h3])
      | (subst hw; first | exact clock_step1 h1 (by assumption) | exact clock_step2 h1 (by assumption))
  · rintro ⟨vs, n, now, tn⟩ u h tk ⟨hI, hw⟩ F' N'
    (try dsimp only at hI hw N' F')
    k_steps
    ((try dsimp only); (try k_unfold); (try dsimp only); refine' doneL (by k_asm) (by k_asm) (by kcj_all) (by k_mem) ?_ (by k_all))
    exact hI
-- CTrip
inductive TA (tups : List (Addr × Obj)) : List Value → List (Int × Int × Int) → Prop
  | nil : TA tups [] []
  | cons {vs ts a x y z tx ty tz} : (a, tupOf [.int x tx, .int y ty, .int z tz]) ∈ tups → TA tups vs ts → TA tups (.ref a :: vs) ((x, y, z) :: ts)
theorem TA.sub {tups tups' : List (Addr × Obj)} (h : ∀ p ∈ tups, p ∈ tups') : ∀ {vs ts}, TA tups vs ts → TA tups' vs ts
  | _, _, .nil => .nil
  | _, _, .cons hm r => .cons (h _ hm) (r.sub h)
theorem TA.snoc {tups : List (Addr × Obj)} {a : Addr} {x y z : Int} {tx ty tz : Tok} (hm : (a, tupOf [.int x tx, .int y ty, .int z tz]) ∈ tups) : ∀ {vs ts}, TA tups vs ts → TA tups (vs ++ [.ref a]) (ts ++ [(x, y, z)])
  | _, _, .nil => .cons hm .nil
  | _, _, .cons hm' r => .cons hm' (r.snoc hm)
def shownL (y : Int) : List Int := if y ≠ 0 then clockL (absV y) 10 else []
def pickL (l : List Int) (k : Nat) : List Int := (l.drop k).take 1
theorem pick_eq {l : List Int} {x y : Int} (h : 0 ≤ x) (e : y = x + 1) : (l.drop x.toNat).take (min y.toNat l.length - x.toNat) = pickL l x.toNat := by
  subst e
  unfold pickL
  by_cases hl : x.toNat < l.length
  · rw [show min (x + 1).toNat l.length - x.toNat = 1 by omega]
  · rw [List.drop_of_length_le (by omega)]; simp
theorem shownL_len (y : Int) : (shownL y).length ≤ 10 := by
  unfold shownL clockL; split <;> simp [rangeKs_length]
theorem shown_sz {vs : List Value} {y : Int} (h : IntsAre vs (shownL y)) : vs.toArray.size ≤ sizeLine := by
  have := shownL_len y
  rw [PySem.sizeLine_eq, List.size_toArray, h.length]; omega
def sgn (x r : Int) : Int := if x < 0 then 0 - r else r
def tripR (z0 z1 x y r : Int) : List (Int × Int × Int) := if z0 ≤ sgn x r ∧ sgn x r ≤ z1 then [(x, y, sgn x r)] else []
def tripX (z0 z1 y x : Int) : List (Int × Int × Int) := (pickL (shownL y) (absV x).toNat).flatMap (tripR z0 z1 x y)
def tripY (x0 x1 z0 z1 y : Int) : List (Int × Int × Int) := (rangeKs x0 (x1 + 1 - x0).toNat).flatMap (tripX z0 z1 y)
def tripsL (x0 x1 y0 y1 z0 z1 : Int) : List (Int × Int × Int) := (rangeKs y0 (y1 + 1 - y0).toNat).flatMap (tripY x0 x1 z0 z1)
def PTrip (ts : List (Int × Int × Int)) (v : Value) (made : List (Addr × Obj)) : Prop := ∃ l vs n tups, v = .ref l ∧ made = (l, lstOf vs n) :: tups ∧ TA tups vs ts ∧ LCg.Off1 l tups ∧ vs.length ≤ 100000
theorem ta_yes {tups : List (Addr × Obj)} {vs : List Value} {pre : List (Int × Int × Int)} {ns : List Int} {r : Nat} {kr x y z : Int} {f : Int → List (Int × Int × Int)} {T : Addr} {tx ty tz : Tok} (hT : TA tups vs (pre ++ (ns.take r).flatMap f)) (hr : ns[r]? = some kr) (hf : f kr = [(x, y, z)]) :
    TA ((T, tupOf [.int x tx, .int y ty, .int z tz]) :: tups) (vs ++ [.ref T]) (pre ++ (ns.take (r + 1)).flatMap f) := by
  have := TA.snoc (a := T) (x := x) (y := y) (z := z) (tx := tx) (ty := ty) (tz := tz) (.head _) (hT.sub (tups' := (T, tupOf [.int x tx, .int y ty, .int z tz]) :: tups) fun p hp => .tail _ hp)
  rw [List.take_add_one, hr, List.flatMap_append]
  simpa [hf] using this
theorem ta_no {tups : List (Addr × Obj)} {vs : List Value} {pre : List (Int × Int × Int)} {ns : List Int} {r : Nat} {kr : Int} {f : Int → List (Int × Int × Int)} (hT : TA tups vs (pre ++ (ns.take r).flatMap f)) (hr : ns[r]? = some kr) (hf : f kr = []) :
    TA tups vs (pre ++ (ns.take (r + 1)).flatMap f) := by
  rw [List.take_add_one, hr, List.flatMap_append]
  simpa [hf] using hT
theorem tripR_y1 {z0 z1 x y r : Int} (h : x < 0) (h1 : z0 ≤ 0 - r) (h2 : 0 - r ≤ z1) : tripR z0 z1 x y r = [(x, y, 0 - r)] := by
  unfold tripR sgn; simp only [if_pos h]; rw [if_pos ⟨h1, h2⟩]
theorem tripR_y2 {z0 z1 x y r : Int} (h : ¬ x < 0) (h1 : z0 ≤ r) (h2 : r ≤ z1) : tripR z0 z1 x y r = [(x, y, r)] := by
  unfold tripR sgn; simp only [if_neg h]; rw [if_pos ⟨h1, h2⟩]
theorem tripR_n1 {z0 z1 x y r : Int} (h : x < 0) (h1 : ¬ z0 ≤ 0 - r) : tripR z0 z1 x y r = [] := by
  unfold tripR sgn; simp only [if_pos h]; rw [if_neg (fun q => h1 q.1)]
theorem tripR_n2 {z0 z1 x y r : Int} (h : ¬ x < 0) (h1 : ¬ z0 ≤ r) : tripR z0 z1 x y r = [] := by
  unfold tripR sgn; simp only [if_neg h]; rw [if_neg (fun q => h1 q.1)]
theorem tripR_n3 {z0 z1 x y r : Int} (h : x < 0) (h1 : ¬ 0 - r ≤ z1) : tripR z0 z1 x y r = [] := by
  unfold tripR sgn; simp only [if_pos h]; rw [if_neg (fun q => h1 q.2)]
theorem tripR_n4 {z0 z1 x y r : Int} (h : ¬ x < 0) (h1 : ¬ r ≤ z1) : tripR z0 z1 x y r = [] := by
  unfold tripR sgn; simp only [if_neg h]; rw [if_neg (fun q => h1 q.2)]
theorem ownOff_cons {T : Addr} {o : Obj} {tups : List (Addr × Obj)} {adr : List Addr} (h : OwnOff tups adr) (hn : ∀ b ∈ adr, T ≠ b) : OwnOff ((T, o) :: tups) adr := fun p hp b hb => by
  rcases List.mem_cons.mp hp with rfl | hp
  · exact hn b hb
  · exact h p hp b hb
theorem ownOff_more {I : Addr} {tups : List (Addr × Obj)} {adr : List Addr} (h : OwnOff tups adr) (h2 : LCg.Off1 I tups) : OwnOff tups (I :: adr) := fun p hp b hb => by
  rcases List.mem_cons.mp hb with rfl | hb
  · exact off1_mem h2 p hp
  · exact h p hp b hb
theorem ownOff_less {I : Addr} {tups : List (Addr × Obj)} {adr : List Addr} (h : OwnOff tups (I :: adr)) : OwnOff tups adr := fun p hp b hb => h p hp b (.tail _ hb)
theorem ownOff_one {I : Addr} {tups : List (Addr × Obj)} {adr : List Addr} (h : OwnOff tups (I :: adr)) : LCg.Off1 I tups := off1_of fun p hp => h p hp I (.head _)
theorem all3 {T a b c : Addr} (h1 : @Ne Nat T a) (h2 : @Ne Nat T b) (h3 : @Ne Nat T c) : ∀ d ∈ [a, b, c], T ≠ d := by
  intro d hd
  simp only [List.mem_cons, List.not_mem_nil, or_false] at hd
  rcases hd with rfl | rfl | rfl
  · exact h1
  · exact h2
  · exact h3
theorem sz2 {L i j k : Nat} (h : L ≤ 1000 * i + 10 * j + k) (hk : k ≤ 1) : L ≤ 1000 * i + 10 * (j + 1) := by omega
theorem sz1 {L i : Nat} {x0 x1 : Int} (h : L ≤ 1000 * i + 10 * (x1 + 1 - x0).toNat) (hx0 : -9 ≤ x0) (hx1 : x1 ≤ 9) : L ≤ 1000 * (i + 1) := by omega
theorem sz0 {L : Nat} {y0 y1 : Int} (h : L ≤ 1000 * (y1 + 1 - y0).toNat) (hy0 : -12 ≤ y0) (hy1 : y1 ≤ 12) : L ≤ 100000 := by omega
theorem pick_len (l : List Int) (k : Nat) : (pickL l k).length ≤ 1 := by unfold pickL; rw [List.length_take]; omega
theorem ta_x {tups : List (Addr × Obj)} {vs : List Value} {pre : List (Int × Int × Int)} {x0 kx z0 z1 k : Int} {j : Nat} {ns : List Int} (e : kx = x0 + (j : Int)) (en : ns = pickL (shownL k) (absV kx).toNat)
    (h : TA tups vs (pre ++ (rangeKs x0 j).flatMap (tripX z0 z1 k) ++ (ns.take ns.length).flatMap (tripR z0 z1 kx k))) : TA tups vs (pre ++ (rangeKs x0 (j + 1)).flatMap (tripX z0 z1 k)) := by
  rw [List.take_length, List.append_assoc] at h
  rw [rangeKs_succ, List.flatMap_append]
  subst e en
  simpa [tripX] using h
theorem ta_y {tups : List (Addr × Obj)} {vs : List Value} {x0 x1 z0 z1 y0 k : Int} {i : Nat} (e : k = y0 + (i : Int))
    (h : TA tups vs ((rangeKs y0 i).flatMap (tripY x0 x1 z0 z1) ++ (rangeKs x0 (x1 + 1 - x0).toNat).flatMap (tripX z0 z1 k))) : TA tups vs ((rangeKs y0 (i + 1)).flatMap (tripY x0 x1 z0 z1)) := by
  rw [rangeKs_succ, List.flatMap_append]
  subst e
  simpa [tripY] using h
theorem trip_k {y0 y1 k : Int} {i : Nat} (h : k = y0 + (i : Int)) (hi : i < (y1 + 1 - y0).toNat) (h0 : -12 ≤ y0) (h1 : y1 ≤ 12) : -12 ≤ k ∧ k ≤ 12 := by omega
theorem trip_abs {k : Int} (h : -12 ≤ k ∧ k ≤ 12) : (if k < 0 then -k else k) ≤ 1000 := by split <;> omega
theorem trip_x {x0 x1 k : Int} {i : Nat} (h : k = x0 + (i : Int)) (hi : i < (x1 + 1 - x0).toNat) (h0 : -9 ≤ x0) (h1 : x1 ≤ 9) : -9 ≤ k ∧ k ≤ 9 := by omega
theorem trip_xabs {k : Int} (h : -9 ≤ k ∧ k ≤ 9) : 0 ≤ (if k < 0 then -k else k) ∧ (if k < 0 then -k else k) ≤ 9 := by split <;> omega
theorem len_lt1 {l : List Int} {r k : Nat} {x : Int} (h : (pickL l k)[r]? = some x) : r < 1 := Nat.lt_of_lt_of_le (List.getElem?_eq_some_iff.mp h).1 (pick_len l k)
theorem sz3 {L i j r : Nat} {x0 x1 y0 y1 : Int} (h : L ≤ 1000 * i + 10 * j + r) (hi : i < (y1 + 1 - y0).toNat) (hj : j < (x1 + 1 - x0).toNat) (hr : r < 1) (hx0 : -9 ≤ x0) (hx1 : x1 ≤ 9) (hy0 : -12 ≤ y0) (hy1 : y1 ≤ 12) : L ≤ 100000 := by omega
local macro_rules | `(tactic| walk_at "call ref") => `(tactic| (k_here; (with_reducible show wpAny _ _ (call (Value.ref _) _) _ _ _); refine Stop.out ?_))
local macro_rules | `(tactic| walk_at "exec For Name Subscript cons nil") => `(tactic| (k_here; (rename Fr _ _ _ _ => lF'); (with_unfolding_all refine' For_invVF lF' ?k1 ?k2 ?_; (case k1 => exact rfl); (case k2 => exact rfl); k_whole)))
local macro_rules | `(tactic| walk_at "subscriptTail Name Slice ref ref") => `(tactic| (k_here; (with_reducible show wpAny _ _ (subscriptTail _ (PySem.Expr.Slice _ _ none _) (Value.ref _) (Value.ref _)) _ _ _); k_dflt (refine' kmk_slice_ints ?F ?N ?l ?p ?q ?i ?m ?c ?_ ?s ?t ?z; (case F => k_asm); (case N => k_asm); (case l => exact News.isList (by k_asm) (by k_mem)); (case p => exact IsPart.int _ _); (case q => exact IsPart.int _ _); (case i => assumption); (case m => exact kmk_run (by assumption) (by omega) (by omega)); (case c => exact rfl); (case s => with_unfolding_all rfl); (case t => intro _; with_unfolding_all rfl); (case z => exact shown_sz (by assumption))); intro D' ws' h' F' N' l1 hI' hC' hL'; (try k_lt l1); (try k_sweep)))

set_option maxRecDepth 100000 in
set_option maxHeartbeats 8000000 in
theorem trip_ok (w : World) (mean : ExcName → Option Value) (mg mb : Str → Option Value) (bx t0 t1 t2 : Addr) (n : Nat) (x0 x1 y0 y1 z0 z1 : Int) (u0 u1 u2 u3 u4 u5 : Tok)
   (hx0 : -9 ≤ x0) (hx1 : x1 ≤ 9) (hx2 : x0 ≤ x1) (hy0 : -12 ≤ y0) (hy1 : y1 ≤ 12) (hy2 : y0 ≤ y1) :
   (Fn 4 w mean mg mb 246 [.ref bx] (boxO bx t0 t1 t2 n x0 x1 y0 y1 z0 z1 u0 u1 u2 u3 u4 u5) (PTrip (tripsL x0 x1 y0 y1 z0 z1))) := by
  have hXr : -20 ≤ x0 ∧ x1 ≤ 20 ∧ x0 ≤ x1 := ⟨Int.le_trans (by decide) hx0, Int.le_trans hx1 (by decide), hx2⟩
  have hYr : -20 ≤ y0 ∧ y1 ≤ 20 ∧ y0 ≤ y1 := ⟨Int.le_trans (by decide) hy0, Int.le_trans hy1 (by decide), hy2⟩
  unfold Fn
  k_fill
  (intro dp un gd cn cs a0 ccd cl outer A₀ base h₀ L m s Q E B F X N T hk hd hu hQ)
  k_dflt (refine' enterG B F X N T ?kA ?kF ?kK ?k6 ?k7 ?k8 ?k9 ?kB hQ ?_ ?c2 ?c3 ?c4 ?c5; (case kA => exact rfl); (case kF => exact rfl); (case kK => exact hk); (case k6 => k_is); (case k7 => k_is); (case k8 => ktr_room); (case k9 => exact BindsTo.of_eq rfl); (case c5 => decide); (case kB => exact locs rfl); (case c2 => exact rfl); (case c3 => exact rfl); (case c4 => exact rfl); k_whole)
  clear B F X N T hk hQ
  intro g' h' F' N' B' X' T'
  (try dsimp only)
  (try k_fold)
  (try simp only [boxO] at N')
  k_steps
  (rename IsRange _ _ _ _ _ _ _ _ => hR)
  (rename Fr _ _ _ _ => hF)
  (rename News _ _ _ _ => hN)
  obtain ⟨fd, hadr⟩ : ∃ l, l = nAddr hN 0 := ⟨_, rfl⟩; simp only [nAddr, List.map_cons, List.getD_cons_succ, List.getD_cons_zero] at hadr; subst hadr
  refine Stop.intro ?_
  refine loopS_range (σ := List Value × Nat × List (Addr × Obj)) (n := (y1 + 1 - y0).toNat) (fun c => (fd, lstOf c.1 c.2.1) :: (bx, lstOf [.ref t0, .ref t1, .ref t2] n) :: (t0, tupOf [.int x0 u0, .int x1 u1]) :: (t1, tupOf [.int y0 u2, .int y1 u3]) :: (t2, tupOf [.int z0 u4, .int z1 u5]) :: c.2.2) (fun c => []) ["shown", "x", "rest"]
    (fun i c => c.1.length ≤ 1000 * i ∧ OwnOff c.2.2 [fd] ∧ TA c.2.2 c.1 ((rangeKs y0 i).flatMap (tripY x0 x1 z0 z1))) ([], 0, [])
    rfl hR (rng_small hYr) (rangeSize_nat _ _) hF (fun p hp => hN p hp) (List.forall_mem_nil _) ⟨Nat.le_refl _, (fun p hp => nomatch hp), .nil⟩ ?_ ?_
  · rintro ⟨vs, ln, tups⟩ i k t u h tk I oI hk hi ⟨hlen, hoff, hT⟩ ho F' N'
    (try dsimp only at hlen hoff hT ho N' F')
    (try k_fold)
    have hf1 : @Ne Nat fd I := ho.1
    have hk1 : -12 ≤ k ∧ k ≤ 12 := trip_k hk hi hy0 hy1
    have hk2 : (if k < 0 then -k else k) ≤ 1000 := trip_abs hk1
    k_steps
    (all_goals (try (refine Stop.intro ?_; (with_reducible show wpAny _ _ (call _ _) _ _ _); k_dflt (refine' Fn.useL (clock_ok _ _ _ _ _ _ _ ?g1 ?g2) ?B ?F ?X ?N ?T ?hk ?hd ?hu ?hs ?_; (case B => k_asm); (case F => k_asm); (case X => k_asm); (case N => k_asm); (case T => k_asm); (case hk => first | exact rfl | assumption); (case hs => kcj_all); (case hd => ktr_room); (case hu => ktr_units); (case g1 => first | assumption | omega); (case g2 => first | assumption | omega); k_whole); intro l9 vs9 n9 h9 tk9 F9 N9 ne9 i9; (try dsimp only); (try k_sweep); k_steps)))
    all_goals (rename IsRange _ _ _ _ _ _ _ _ => hR2)
    all_goals (rename Fr _ _ _ _ => hF2)
    all_goals (rename News _ _ _ _ => hN2)
    all_goals (obtain ⟨sl, hadr⟩ : ∃ l, l = nAddr hN2 0 := ⟨_, rfl⟩; simp only [nAddr, List.map_cons, List.getD_cons_succ, List.getD_cons_zero] at hadr; subst hadr)
    all_goals obtain ⟨VS, NS, hS, hN3⟩ : ∃ VS NS, IntsAre VS (shownL k) ∧ News g' s.heap.objs.size _ ((sl, lstOf VS NS) :: (I, oI) :: (fd, lstOf vs ln) :: (bx, lstOf [.ref t0, .ref t1, .ref t2] n) :: (t0, tupOf [.int x0 u0, .int x1 u1]) :: (t1, tupOf [.int y0 u2, .int y1 u3]) :: (t2, tupOf [.int z0 u4, .int z1 u5]) :: tups) := ⟨_, _, by first | (unfold shownL; rw [if_neg (by simp; assumption)]; exact IntsAre.nil) | (unfold shownL; rw [if_pos (by assumption)]; assumption), hN2⟩
    all_goals have hfs : @Ne Nat fd sl := by first | ((rename LCg.Off1 sl _ => q9); exact q9.2.1) | (refine neN ?_; omega)
    all_goals clear hN2
    all_goals refine Stop.intro ?_
    all_goals refine loopS_range (σ := List Value × Nat × List (Addr × Obj)) (n := (x1 + 1 - x0).toNat) (fun c => (sl, lstOf VS NS) :: (I, oI) :: (fd, lstOf c.1 c.2.1) :: (bx, lstOf [.ref t0, .ref t1, .ref t2] n) :: (t0, tupOf [.int x0 u0, .int x1 u1]) :: (t1, tupOf [.int y0 u2, .int y1 u3]) :: (t2, tupOf [.int z0 u4, .int z1 u5]) :: c.2.2) (fun c => []) ["rest"] (fun j c => c.1.length ≤ 1000 * i + 10 * j ∧ OwnOff c.2.2 [I, fd] ∧ TA c.2.2 c.1 ((rangeKs y0 i).flatMap (tripY x0 x1 z0 z1) ++ (rangeKs x0 j).flatMap (tripX z0 z1 k))) (vs, ln, tups) rfl hR2 (rng_small hXr) (rangeSize_nat _ _) hF2 (fun p hp => hN3 p hp) (List.forall_mem_nil _) ⟨hlen, ownOff_more hoff ho.2.2.2.2.2, by simpa [rangeKs] using hT⟩ ?_ ?_
    · rintro ⟨vs, ln, tups⟩ j kx tx u h tk I2 oI2 hkx hj ⟨hlen, hoff, hT⟩ ho2 F' N'
      (try dsimp only at hlen hoff hT ho2 N' F')
      (try k_fold)
      have hf2 : @Ne Nat fd I2 := ho2.2.2.1
      have hkx1 : -9 ≤ kx ∧ kx ≤ 9 := trip_x hkx hj hx0 hx1
      have hka : 0 ≤ (if kx < 0 then -kx else kx) ∧ (if kx < 0 then -kx else kx) ≤ 9 := trip_xabs hkx1
      k_steps
      (rename IntsAre _ _ => hI3)
      rw [pick_eq hka.1 rfl] at hI3
      (rename Fr _ _ _ _ => hF3)
      (rename News _ _ _ _ => hN3)
      obtain ⟨sl2, hadr⟩ : ∃ l, l = nAddr hN3 0 := ⟨_, rfl⟩; simp only [nAddr, List.map_cons, List.getD_cons_succ, List.getD_cons_zero] at hadr; subst hadr
      obtain ⟨WS, WN, hW, hN4⟩ : ∃ WS WN, IntsAre WS (pickL (shownL k) (absV kx).toNat) ∧ News g' s.heap.objs.size _ ((sl2, lstOf WS WN) :: (I2, oI2) :: (sl, lstOf VS NS) :: (I, oI) :: (fd, lstOf vs ln) :: (bx, lstOf [.ref t0, .ref t1, .ref t2] n) :: (t0, tupOf [.int x0 u0, .int x1 u1]) :: (t1, tupOf [.int y0 u2, .int y1 u3]) :: (t2, tupOf [.int z0 u4, .int z1 u5]) :: tups) := ⟨_, _, hI3, hN3⟩
      have hfs2 : @LT.lt Nat _ fd sl2 := by omega
      clear hN3 hI3
      refine Stop.intro ?_
      refine loopS_list (σ := List Value × Nat × List (Addr × Obj)) (l := sl2) (vs := WS) (nn := WN) (ns := pickL (shownL k) (absV kx).toNat) (fun c => (sl2, lstOf WS WN) :: (I2, oI2) :: (sl, lstOf VS NS) :: (I, oI) :: (fd, lstOf c.1 c.2.1) :: (bx, lstOf [.ref t0, .ref t1, .ref t2] n) :: (t0, tupOf [.int x0 u0, .int x1 u1]) :: (t1, tupOf [.int y0 u2, .int y1 u3]) :: (t2, tupOf [.int z0 u4, .int z1 u5]) :: c.2.2) (fun c => []) []
        (fun r c => c.1.length ≤ 1000 * i + 10 * j + r ∧ OwnOff c.2.2 [I2, I, fd] ∧ TA c.2.2 c.1 (((rangeKs y0 i).flatMap (tripY x0 x1 z0 z1) ++ (rangeKs x0 j).flatMap (tripX z0 z1 k)) ++ ((pickL (shownL k) (absV kx).toNat).take r).flatMap (tripR z0 z1 kx k))) (vs, ln, tups)
        rfl (fun c => .head _) hW hF3 (fun p hp => hN4 p hp) (List.forall_mem_nil _) ⟨hlen, ownOff_more hoff ho2.2.2.2.2.2.2.2, by simpa using hT⟩ ?_ ?_
      · rintro ⟨vs, ln, tups⟩ r kr tr u h tk I3 oI3 hkr ⟨hlen, hoff, hT⟩ ho3 F' N'
        (try dsimp only at hlen hoff hT ho3 N' F')
        (try k_fold)
        have hf3 : @Ne Nat fd I3 := ho3.2.2.2.2.1
        have hrl : r < 1 := len_lt1 hkr
        have hsz : vs.length ≤ 100000 := sz3 hlen hi hj hrl hx0 hx1 hy0 hy1
        k_steps
        all_goals (show SEnd _ _ _ _ _ _ _ _ _ _ _ _)
        all_goals first
          | (refine SEnd.intro (vs, ln, tups) (by k_asm) (by k_asm) (fun p hp => hp) ho3 (List.forall_mem_nil _) (fun z h1 _ _ => by simp [kstB, h1]) ⟨Nat.le_succ_of_le hlen, hoff, ta_no hT hkr ?_⟩; first | exact tripR_n1 (by assumption) (by assumption) | exact tripR_n2 (by assumption) (by assumption) | exact tripR_n3 (by assumption) (by assumption) | exact tripR_n4 (by assumption) (by assumption))
          | ((rename News _ _ _ _ => hN5); obtain ⟨T, hadr⟩ : ∃ l, l = nAddr hN5 0 := ⟨_, rfl⟩; simp only [nAddr, List.map_cons, List.getD_cons_succ, List.getD_cons_zero] at hadr; subst hadr; have hT1 : @Ne Nat T I := (by omega); have hT2 : @Ne Nat T I2 := (by omega); have hT3 : @Ne Nat T I3 := (by omega); have hT4 : @Ne Nat T fd := (by omega); refine SEnd.intro (vs ++ [.ref T], ln + 1, (T, tupOf [.int kx _, .int k _, .int _ _]) :: tups) (by k_asm) hN5 (by kcf_all) ⟨ho3.1, ho3.2.1, ho3.2.2.1, ho3.2.2.2.1, ho3.2.2.2.2.1, ho3.2.2.2.2.2.1, ho3.2.2.2.2.2.2.1, ho3.2.2.2.2.2.2.2.1, ho3.2.2.2.2.2.2.2.2.1, hT3, ho3.2.2.2.2.2.2.2.2.2⟩ (List.forall_mem_nil _) (fun z h1 _ _ => by simp [kstB, h1]) ⟨by rw [List.length_append]; exact Nat.succ_le_succ hlen, ownOff_cons hoff (all3 hT2 hT1 hT4), ta_yes hT hkr ?_⟩; first | exact tripR_y1 (by assumption) (by assumption) (by assumption) | exact tripR_y2 (by assumption) (by assumption) (by assumption))
      · rintro ⟨vs, ln, tups⟩ u h tk ⟨hlen, hoff, hT⟩ F' N'
        (try dsimp only at hlen hoff hT N' F')
        k_steps
        show SEnd _ _ _ _ _ _ _ _ _ _ _ _
        exact SEnd.intro (vs, ln, tups) (by k_asm) (by k_asm) (fun p hp => .tail _ hp) ⟨ho2.1, ho2.2.1, ho2.2.2.1, ho2.2.2.2.1, ho2.2.2.2.2.1, ho2.2.2.2.2.2.1, ho2.2.2.2.2.2.2.1, ownOff_one hoff⟩ (List.forall_mem_nil _) (fun z h1 _ h3 => by by_cases hz : z = "rest" <;> simp_all [kstB]) ⟨sz2 hlen (pick_len _ _), ownOff_less hoff, ta_x hkx rfl hT⟩
    · rintro ⟨vs, ln, tups⟩ u h tk ⟨hlen, hoff, hT⟩ F' N'
      (try dsimp only at hlen hoff hT N' F')
      k_steps
      show SEnd _ _ _ _ _ _ _ _ _ _ _ _
      exact SEnd.intro (vs, ln, tups) (by k_asm) (by k_asm) (fun p hp => .tail _ hp) ⟨ho.1, ho.2.1, ho.2.2.1, ho.2.2.2.1, ho.2.2.2.2.1, ownOff_one hoff⟩ (List.forall_mem_nil _) (fun z h1 _ h3 => by (simp only [List.contains_cons, List.contains_nil, Bool.or_false, Bool.or_eq_false_iff, beq_eq_false_iff_ne, ne_eq] at h3; obtain ⟨q1, q2, q3⟩ := h3; simp [kstB, h1, q1, q2, q3])) ⟨sz1 hlen hx0 hx1, ownOff_less hoff, ta_y hk hT⟩
    · rintro ⟨vs, ln, tups⟩ j kx tx u h tk I2 oI2 hkx hj ⟨hlen, hoff, hT⟩ ho2 F' N'
      (try dsimp only at hlen hoff hT ho2 N' F')
      (try k_fold)
      have hf2 : @Ne Nat fd I2 := ho2.2.2.1
      have hkx1 : -9 ≤ kx ∧ kx ≤ 9 := trip_x hkx hj hx0 hx1
      have hka : 0 ≤ (if kx < 0 then -kx else kx) ∧ (if kx < 0 then -kx else kx) ≤ 9 := trip_xabs hkx1
      k_steps
      (rename IntsAre _ _ => hI3)
      rw [pick_eq hka.1 rfl] at hI3
      (rename Fr _ _ _ _ => hF3)
      (rename News _ _ _ _ => hN3)
      obtain ⟨sl2, hadr⟩ : ∃ l, l = nAddr hN3 0 := ⟨_, rfl⟩; simp only [nAddr, List.map_cons, List.getD_cons_succ, List.getD_cons_zero] at hadr; subst hadr
      obtain ⟨WS, WN, hW, hN4⟩ : ∃ WS WN, IntsAre WS (pickL (shownL k) (absV kx).toNat) ∧ News g' s.heap.objs.size _ ((sl2, lstOf WS WN) :: (I2, oI2) :: (sl, lstOf VS NS) :: (I, oI) :: (fd, lstOf vs ln) :: (bx, lstOf [.ref t0, .ref t1, .ref t2] n) :: (t0, tupOf [.int x0 u0, .int x1 u1]) :: (t1, tupOf [.int y0 u2, .int y1 u3]) :: (t2, tupOf [.int z0 u4, .int z1 u5]) :: tups) := ⟨_, _, hI3, hN3⟩
      have hfs2 : @LT.lt Nat _ fd sl2 := by omega
      clear hN3 hI3
      refine Stop.intro ?_
      refine loopS_list (σ := List Value × Nat × List (Addr × Obj)) (l := sl2) (vs := WS) (nn := WN) (ns := pickL (shownL k) (absV kx).toNat) (fun c => (sl2, lstOf WS WN) :: (I2, oI2) :: (sl, lstOf VS NS) :: (I, oI) :: (fd, lstOf c.1 c.2.1) :: (bx, lstOf [.ref t0, .ref t1, .ref t2] n) :: (t0, tupOf [.int x0 u0, .int x1 u1]) :: (t1, tupOf [.int y0 u2, .int y1 u3]) :: (t2, tupOf [.int z0 u4, .int z1 u5]) :: c.2.2) (fun c => []) []
        (fun r c => c.1.length ≤ 1000 * i + 10 * j + r ∧ OwnOff c.2.2 [I2, I, fd] ∧ TA c.2.2 c.1 (((rangeKs y0 i).flatMap (tripY x0 x1 z0 z1) ++ (rangeKs x0 j).flatMap (tripX z0 z1 k)) ++ ((pickL (shownL k) (absV kx).toNat).take r).flatMap (tripR z0 z1 kx k))) (vs, ln, tups)
        rfl (fun c => .head _) hW hF3 (fun p hp => hN4 p hp) (List.forall_mem_nil _) ⟨hlen, ownOff_more hoff ho2.2.2.2.2.2.2.2, by simpa using hT⟩ ?_ ?_
      · rintro ⟨vs, ln, tups⟩ r kr tr u h tk I3 oI3 hkr ⟨hlen, hoff, hT⟩ ho3 F' N'
        (try dsimp only at hlen hoff hT ho3 N' F')
        (try k_fold)
        have hf3 : @Ne Nat fd I3 := ho3.2.2.2.2.1
        have hrl : r < 1 := len_lt1 hkr
        have hsz : vs.length ≤ 100000 := sz3 hlen hi hj hrl hx0 hx1 hy0 hy1
        k_steps
        all_goals (show SEnd _ _ _ _ _ _ _ _ _ _ _ _)
        all_goals first
          | (refine SEnd.intro (vs, ln, tups) (by k_asm) (by k_asm) (fun p hp => hp) ho3 (List.forall_mem_nil _) (fun z h1 _ _ => by simp [kstB, h1]) ⟨Nat.le_succ_of_le hlen, hoff, ta_no hT hkr ?_⟩; first | exact tripR_n1 (by assumption) (by assumption) | exact tripR_n2 (by assumption) (by assumption) | exact tripR_n3 (by assumption) (by assumption) | exact tripR_n4 (by assumption) (by assumption))
          | ((rename News _ _ _ _ => hN5); obtain ⟨T, hadr⟩ : ∃ l, l = nAddr hN5 0 := ⟨_, rfl⟩; simp only [nAddr, List.map_cons, List.getD_cons_succ, List.getD_cons_zero] at hadr; subst hadr; have hT1 : @Ne Nat T I := (by omega); have hT2 : @Ne Nat T I2 := (by omega); have hT3 : @Ne Nat T I3 := (by omega); have hT4 : @Ne Nat T fd := (by omega); refine SEnd.intro (vs ++ [.ref T], ln + 1, (T, tupOf [.int kx _, .int k _, .int _ _]) :: tups) (by k_asm) hN5 (by kcf_all) ⟨ho3.1, ho3.2.1, ho3.2.2.1, ho3.2.2.2.1, ho3.2.2.2.2.1, ho3.2.2.2.2.2.1, ho3.2.2.2.2.2.2.1, ho3.2.2.2.2.2.2.2.1, ho3.2.2.2.2.2.2.2.2.1, hT3, ho3.2.2.2.2.2.2.2.2.2⟩ (List.forall_mem_nil _) (fun z h1 _ _ => by simp [kstB, h1]) ⟨by rw [List.length_append]; exact Nat.succ_le_succ hlen, ownOff_cons hoff (all3 hT2 hT1 hT4), ta_yes hT hkr ?_⟩; first | exact tripR_y1 (by assumption) (by assumption) (by assumption) | exact tripR_y2 (by assumption) (by assumption) (by assumption))
      · rintro ⟨vs, ln, tups⟩ u h tk ⟨hlen, hoff, hT⟩ F' N'
        (try dsimp only at hlen hoff hT N' F')
        k_steps
        show SEnd _ _ _ _ _ _ _ _ _ _ _ _
        exact SEnd.intro (vs, ln, tups) (by k_asm) (by k_asm) (fun p hp => .tail _ hp) ⟨ho2.1, ho2.2.1, ho2.2.2.1, ho2.2.2.2.1, ho2.2.2.2.2.1, ho2.2.2.2.2.2.1, ho2.2.2.2.2.2.2.1, ownOff_one hoff⟩ (List.forall_mem_nil _) (fun z h1 _ h3 => by by_cases hz : z = "rest" <;> simp_all [kstB]) ⟨sz2 hlen (pick_len _ _), ownOff_less hoff, ta_x hkx rfl hT⟩
    · rintro ⟨vs, ln, tups⟩ u h tk ⟨hlen, hoff, hT⟩ F' N'
      (try dsimp only at hlen hoff hT N' F')
      k_steps
      show SEnd _ _ _ _ _ _ _ _ _ _ _ _
      exact SEnd.intro (vs, ln, tups) (by k_asm) (by k_asm) (fun p hp => .tail _ hp) ⟨ho.1, ho.2.1, ho.2.2.1, ho.2.2.2.1, ho.2.2.2.2.1, ownOff_one hoff⟩ (List.forall_mem_nil _) (fun z h1 _ h3 => by (simp only [List.contains_cons, List.contains_nil, Bool.or_false, Bool.or_eq_false_iff, beq_eq_false_iff_ne, ne_eq] at h3; obtain ⟨q1, q2, q3⟩ := h3; simp [kstB, h1, q1, q2, q3])) ⟨sz1 hlen hx0 hx1, ownOff_less hoff, ta_y hk hT⟩
  · rintro ⟨vs, ln, tups⟩ u h tk ⟨hlen, hoff, hT⟩ F' N'
    (try dsimp only at hlen hoff hT N' F')
    k_steps
    (try dsimp only); (try k_unfold); (try dsimp only)
    exact ⟨_, _, _, (fd, lstOf vs ln) :: tups, rfl, F', (fun p hp => N' p ((List.forall_mem_append.mpr ⟨by kcf_all, by kcf_all⟩) p hp)), fd, vs, ln, tups, rfl, rfl, hT, ownOff_one hoff, sz0 hlen hy0 hy1⟩
end Mine
end
section
open PySem PySem.W PyProof.Rows PySem.Calls PySem.Spec
set_option maxRecDepth 100000
namespace Mine
-- Mut
/-- the end of a called body that may change what it was given: the value, what now stands -/
def DoneM (s : Shared) (g : Heap) (L' : Addr) (post : Value → List (Addr × Obj) → Prop) (v : Value) (s' : Shared) : Prop :=
  ∃ (h' : Heap) (tk' : Nat) (m' : Str → Option Value) (now : List (Addr × Obj)), s' = { s with heap := h', toks := tk' } ∧ Fr g L' h' m' ∧ News g L' h' now ∧ post v now
def KeepsOff (l : List Addr) (h h' : Heap) : Prop := ∀ b o, b ∉ l → h.get? b = some o → h'.get? b = some o

section
variable {prog : Program} {w : World} {A A₀ : Around} {s : Shared} {base h₀ : Heap} {outer : List Env} {L : Addr} {m : Str → Option Value} {env : Env} {news : List (Addr × Obj)} {K : Frag}
  {p : Program} {loose : List Str} {mean : ExcName → Option Value} {mg mb : Str → Option Value}
  {name qual : Str} {params : Arguments} {body : List Stmt} {scope : Scope} {dV kV doc pm cdv ct oc : Value} {an od : Option Addr} {osl : Array (Option Value)} {f : Addr} {vs : List Value} {binds : List (Str × Value)}
theorem enterGM {Q E : Value → Shared → Prop} {post : Value → List (Addr × Obj) → Prop}
    (B : Below A₀ base outer h₀) (F : Fr h₀ L s.heap m) (X₀ : K.In h₀) (N : News h₀ L s.heap news) (T : Top p loose mean mg mb h₀) (hA : A.frames = some (env :: outer)) (hf : env.frame = some L) (hke : env.scope.kind = .function)
    (ho : K.lookup f = some ⟨oc, od, .func (fnOf name qual params body scope dV kV doc pm an cdv ct), osl⟩) (hcd : codeIn K cdv qual = true) (hroom : A.depth < recursionLimit)
    (hbind : BindsTo s (fnOf name qual params body scope dV kV doc pm an cdv ct) ⟨vs, []⟩ binds) (hloc : ∀ y ∈ binds, scope.names.lookup y.1 = some .local)
    (hQ : ∀ v now h' tk', KeepsOff (news.map (·.1)) s.heap h' → (∀ q ∈ now, h'.get? q.1 = some q.2 ∧ (s.heap.get? q.1 = none ∨ q.1 ∈ news.map (·.1))) → post v now → Q v { s with heap := h', toks := tk' })
    (h : ∀ g h₁, Fr g s.heap.objs.size h₁ (fun y => binds.reverse.lookup y) → News g s.heap.objs.size h₁ news → Below A base (env :: outer) g → K.In g → Top p loose mean mg mb g → (∀ p ∈ news, p.1 < s.heap.objs.size) →
      wpAny (model prog w) (A.deeper (envOf qual scope s.heap.objs.size f cdv)) (execs body (envOf qual scope s.heap.objs.size f cdv))
        (fun fl s' => DoneM s g s.heap.objs.size post (match fl with | .ret v => v | _ => .none) s')
        (fun e s' => wpAny (model prog w) (A.deeper (envOf qual scope s.heap.objs.size f cdv)) (leaving (envOf qual scope s.heap.objs.size f cdv) e) (fun _ s'' => E e s'') (fun e' s'' => E e' s'') s')
        { s with heap := h₁, toks := s.toks + binds.length })
    (hco : scope.isCoroutine = false) (hgen : scope.isGenerator = false) (hk : scope.kind = .function)
    (hcell : ∀ x ∈ scope.names, x.2 ≠ .cell) :
    wpAny (model prog w) A (call (.ref f) vs) Q E s := by
  refine wpAny_call ?_
  obtain ⟨FG, BG, st, _⟩ := groundX (R := fun _ _ => True) B F N hA hf hke
  have hlim : h₀.NoLimit := T.nolimit
  refine codeAny_call_def (fd := fnOf name qual params body scope dV kV doc pm an cdv ct) (body := body) (binds := binds) hroom ((X₀.keeps F.keep) _ _ ho) rfl (hlim.keeps F.keep) (codeRec_of (X₀.keeps F.keep) hcd) rfl hbind hcell hloc (fun h₁ hns hk₁ => ?_) hco hgen hk
  refine wpAny_mono (h _ h₁ ⟨hns, fun b o e => hk₁ b o (of_hideAll _ e), Nat.le_of_eq (hideAll_size _ _)⟩
    (fun p hp => ⟨hk₁ _ _ (N p hp).1, Nat.ne_of_lt (Heap.lt_size (N p hp).1), hideAll_none _ (List.mem_map_of_mem hp)⟩) BG (X₀.keeps st) (T.keeps st) (fun p hp => Heap.lt_size (N p hp).1)) (fun fl s' hl => ?_) fun _ _ y => y
  obtain ⟨h', tk', m', now, rfl, F', N', hp⟩ := hl
  refine hQ _ now h' tk' (fun b o hb e => F'.keep b o (hideAll_get _ e hb)) (fun q hq => ⟨(N' q hq).1, ?_⟩) hp
  have h3 := (N' q hq).2.2
  by_cases hb : q.1 ∈ news.map (·.1)
  · exact .inr hb
  · refine .inl ?_
    cases hg : s.heap.get? q.1 with
    | none => rfl
    | some o => rw [hideAll_get _ hg hb] at h3; cases h3
end

/-- the contract of a def that may change the objects named in old -/
def FnM (d : Nat) (w : World) (mean : ExcName → Option Value) (mg mb : Str → Option Value) (f : Addr) (vs : List Value) (old : List (Addr × Obj)) (post : Value → List (Addr × Obj) → Prop) : Prop :=
  ∀ (dp un : Nat) (gd : Option (List Code)) (cn : Str) (cs : Scope) (a : Addr) (ccd : Value) (cl : List (Str × Addr)) (outer : List Env) (A₀ : Around) (base h₀ : Heap) (L : Addr) (m : Str → Option Value) (s : Shared) (Q E : Value → Shared → Prop),
    Below A₀ base outer h₀ → Fr h₀ L s.heap m → (hd.heap_39 w.params).In h₀ → News h₀ L s.heap old → Top viewL (looseW viewL []) mean mg mb h₀ → cs.kind = .function →
    dp + d < recursionLimit → un + 100 * d < cLine →
    (∀ v now h' tk', KeepsOff (old.map (·.1)) s.heap h' → (∀ q ∈ now, h'.get? q.1 = some q.2 ∧ (s.heap.get? q.1 = none ∨ q.1 ∈ old.map (·.1))) → post v now → Q v { s with heap := h', toks := tk' }) →
    wpAny (model PySem.Challenge.rw_ok0088_01.row.prog w) (ktrTop dp un gd cn cs L a ccd cl outer) (call (.ref f) vs) Q E s

section
variable {w : World} {mean : ExcName → Option Value} {mg mb : Str → Option Value} {f : Addr} {vs : List Value} {old news rest : List (Addr × Obj)} {post : Value → List (Addr × Obj) → Prop}
  {d dp un : Nat} {gd : Option (List Code)} {cn : Str} {cs : Scope} {a : Addr} {ccd : Value} {cl : List (Str × Addr)} {outer : List Env} {A₀ : Around} {base h₀ : Heap} {L : Addr} {m : Str → Option Value} {s : Shared} {Q E : Value → Shared → Prop}
theorem FnM.use {hdA ls : Addr} {o ol : Obj} {g : Obj → List (Addr × Obj)} (C : FnM d w mean mg mb f vs [(hdA, o), (ls, ol)] post) (B : Below A₀ base outer h₀) (F : Fr h₀ L s.heap m) (X : (hd.heap_39 w.params).In h₀) (N : News h₀ L s.heap news) (T : Top viewL (looseW viewL []) mean mg mb h₀) (hk : cs.kind = .function)
    (hd : dp + d < recursionLimit) (hu : un + 100 * d < cLine) (U : UpdF hdA o news g) (hm : (ls, ol) ∈ news)
    (k : ∀ v now h' tk', Fr h₀ L h' m → News h₀ L h' now → (∀ q ∈ now, s.heap.get? q.1 = none ∨ q.1 ∈ [hdA, ls]) → (∀ o', (hdA, o') ∈ now → (ls, ol) ∈ now → News h₀ L h' (g o')) → post v now → Q v { s with heap := h', toks := tk' }) :
    wpAny (model PySem.Challenge.rw_ok0088_01.row.prog w) (ktrTop dp un gd cn cs L a ccd cl outer) (call (.ref f) vs) Q E s := by
  obtain ⟨pre, post', rfl, hg, h1, h2⟩ := U.split
  have hs : ∀ q ∈ [(hdA, o), (ls, ol)], q ∈ pre ++ (hdA, o) :: post' := fun q hq => by
    rcases List.mem_cons.mp hq with rfl | hq
    · exact List.mem_append_right _ (.head _)
    · rw [List.mem_singleton.mp hq]; exact hm
  refine C dp un gd cn cs a ccd cl outer A₀ base h₀ L m s Q E B F X (fun q hq => N q (hs q hq)) T hk hd hu fun v now h' tk' hK hN hp => ?_
  have hL : L ∉ [(hdA, o), (ls, ol)].map (·.1) := fun hm => by
    obtain ⟨q, hq, e⟩ := List.mem_map.mp hm
    exact (N q (hs q hq)).2.1 e
  have h0 : ∀ b ob, h₀.get? b = some ob → b ∉ [(hdA, o), (ls, ol)].map (·.1) := fun b ob e hm => by
    obtain ⟨q, hq, e'⟩ := List.mem_map.mp hm
    have := (N q (hs q hq)).2.2
    rw [e', e] at this; cases this
  have NN : News h₀ L h' now := fun q hq => by
    obtain ⟨e, hf⟩ := hN q hq
    refine ⟨e, ?_, ?_⟩
    · rcases hf with hf | hf
      · obtain ⟨oL, _, _, hLo, _⟩ := F.ns
        intro e'
        have hf' : s.heap.get? L = none := by rw [← e']; exact hf
        rw [hLo] at hf'; cases hf'
      · intro e'; exact hL (e' ▸ hf)
    · cases hq0 : h₀.get? q.1 with
      | none => rfl
      | some ob =>
        rcases hf with hf | hf
        · rw [F.keep _ _ hq0] at hf; cases hf
        · exact absurd hf (h0 _ _ hq0)
  refine k v now h' tk' ⟨F.ns.at' fun o e => hK L o hL e, fun b o e => hK b o (h0 b o e) (F.keep b o e), F.above⟩ NN (fun q hq => (hN q hq).2.imp id fun h => by simpa using h) (fun o' ho' hl' q hq => ?_) hp
  rw [hg o'] at hq
  have hold : q ∈ pre ++ post' → q.1 ≠ hdA → h'.get? q.1 = some q.2 ∧ q.1 ≠ L ∧ h₀.get? q.1 = none := fun hq hne => by
    have hq' : q ∈ pre ++ (hdA, o) :: post' := (List.mem_append.mp hq).elim (fun h => List.mem_append_left _ h) fun h => List.mem_append_right _ (.tail _ h)
    by_cases hl : q.1 = ls
    · have e : q.2 = ol := by
        have a1 := (N q hq').1
        have a2 := (N (ls, ol) hm).1
        have a2' : s.heap.get? ls = some ol := a2
        rw [hl, a2'] at a1; exact (Option.some.inj a1).symm
      have e' : q = (ls, ol) := Prod.ext hl e
      rw [e']; exact NN _ hl'
    · refine ⟨hK _ _ (fun hm => ?_) (N q hq').1, (N q hq').2⟩
      simp only [List.map_cons, List.map_nil, List.mem_cons, List.not_mem_nil, or_false] at hm
      exact hm.elim hne hl
  rcases List.mem_append.mp hq with hq | hq
  · exact hold (List.mem_append_left _ hq) (h1 q hq)
  · rcases List.mem_cons.mp hq with rfl | hq
    · exact NN _ ho'
    · exact hold (List.mem_append_right _ hq) (h2 q hq)
end
end Mine
end
section
open PySem PySem.W PyProof.Rows PySem.Calls PySem.Spec
namespace Mine
-- CFig
def PFig (many p : Int) (hda ls : Addr) (ol : Obj) (v : Value) (now : List (Addr × Obj)) : Prop :=
  ∃ r tr tp n, v = .int r tr ∧ 0 ≤ r ∧ r < many ∧ now = [(hda, lstOf [.ref ls, .int (p + 1) tp] n), (ls, ol)]
theorem fmod_lo9 (a : Int) {n : Int} (h : 1 ≤ n) : 0 ≤ a.fmod n := Int.fmod_nonneg_of_pos a (by omega)
theorem fmod_hi9 (a : Int) {n : Int} (h : 1 ≤ n) : a.fmod n < n := Int.fmod_lt_of_pos a (by omega)
theorem fdiv_bd {p k : Int} (hp : 0 ≤ p) (hk : 0 < k) : 0 ≤ p.fdiv k ∧ p.fdiv k ≤ p ∧ 0 ≤ p - p.fdiv k * k ∧ p - p.fdiv k * k < k := by
  rw [Int.fdiv_eq_ediv_of_nonneg _ (Int.le_of_lt hk)]
  have h1 := Int.emod_nonneg p (Int.ne_of_gt hk)
  have h2 := Int.emod_lt_of_pos p hk
  have h3 := Int.emod_add_mul_ediv p k
  have h4 : p / k * k = k * (p / k) := Int.mul_comm _ _
  have h5 := Int.ediv_nonneg hp (Int.le_of_lt hk)
  have h6 : p / k ≤ p := Int.ediv_le_self _ hp
  rw [h4]; omega
set_option maxRecDepth 100000 in
set_option maxHeartbeats 8000000 in
theorem fig0_ok (w : World) (mean : ExcName → Option Value) (mg mb : Str → Option Value) (hda ls : Addr) (p many : Int) (tp tm : Tok) (n yn : Nat)
   (hne : @Ne Nat hda ls) (hp0 : 0 ≤ p) (hp1 : p ≤ 1000) (hm0 : 1 ≤ many) (hm1 : many ≤ 100) :
   (FnM 2 w mean mg mb 225 [.ref hda, .int many tm] [(hda, lstOf [.ref ls, .int p tp] n), (ls, lstOf [] yn)] (PFig many p hda ls (lstOf [] yn))) := by
  unfold FnM
  k_fill
  (intro dp un gd cn cs a0 ccd cl outer A₀ base h₀ L m s Q E B F X N T hk hd hu hQ)
  k_dflt (refine' enterGM B F X N T ?kA ?kF ?kK ?k6 ?k7 ?k8 ?k9 ?kB hQ ?_ ?c2 ?c3 ?c4 ?c5; (case kA => exact rfl); (case kF => exact rfl); (case kK => exact hk); (case k6 => k_is); (case k7 => k_is); (case k8 => ktr_room); (case k9 => exact BindsTo.of_eq rfl); (case c5 => decide); (case kB => exact locs rfl); (case c2 => exact rfl); (case c3 => exact rfl); (case c4 => exact rfl); k_whole)
  clear B F X N T hk hQ
  intro g' h' F' N' B' X' T' l1
  (try k_lt l1)
  (try dsimp only)
  (try k_fold)
  k_steps
  (try dsimp only); (try k_unfold); (try dsimp only)
  (rename News _ _ _ _ => hN)
  exact ⟨_, _, _, [(hda, lstOf [.ref ls, .int (p + 1) _] _), (ls, lstOf [] yn)], rfl, by k_asm, (fun q hq => hN q ((by kcf_all : ∀ q ∈ [(hda, lstOf [.ref ls, .int (p + 1) _] _), (ls, lstOf [] yn)], q ∈ _) q hq)), _, _, _, _, rfl, fmod_lo9 _ hm0, fmod_hi9 _ hm0, rfl⟩
set_option maxRecDepth 100000 in
set_option maxHeartbeats 8000000 in
theorem fig1_ok (w : World) (mean : ExcName → Option Value) (mg mb : Str → Option Value) (hda ls : Addr) (p many : Int) (tp tm : Tok) (n yn : Nat) (ys : List Value) (ns : List Int)
   (hne : @Ne Nat hda ls) (hI : IntsAre ys ns) (hn0 : 0 < (ns.length : Int)) (hlen : ns.length ≤ 63) (hall : ∀ x ∈ ns, 0 ≤ x ∧ x < 10 ^ 9) (hp0 : 0 ≤ p) (hp1 : p ≤ 1000) (hm0 : 1 ≤ many) (hm1 : many ≤ 100) :
   (FnM 2 w mean mg mb 225 [.ref hda, .int many tm] [(hda, lstOf [.ref ls, .int p tp] n), (ls, lstOf ys yn)] (PFig many p hda ls (lstOf ys yn))) := by
  unfold FnM
  k_fill
  (intro dp un gd cn cs a0 ccd cl outer A₀ base h₀ L m s Q E B F X N T hk hd hu hQ)
  k_dflt (refine' enterGM B F X N T ?kA ?kF ?kK ?k6 ?k7 ?k8 ?k9 ?kB hQ ?_ ?c2 ?c3 ?c4 ?c5; (case kA => exact rfl); (case kF => exact rfl); (case kK => exact hk); (case k6 => k_is); (case k7 => k_is); (case k8 => ktr_room); (case k9 => exact BindsTo.of_eq rfl); (case c5 => decide); (case kB => exact locs rfl); (case c2 => exact rfl); (case c3 => exact rfl); (case c4 => exact rfl); k_whole)
  clear B F X N T hk hQ
  intro g' h' F' N' B' X' T' l1
  (try k_lt l1)
  (try dsimp only)
  (try k_fold)
  have hq := fdiv_bd hp0 hn0
  have hq1 := hq.1
  have hq2 := hq.2.1
  have hq3 := hq.2.2.1
  have hq4 := hq.2.2.2
  k_steps
  · exfalso
    (rename decide _ = true => hd9)
    rw [of_decide_eq_true hd9] at hn0
    exact absurd hn0 (by decide)
  · (try dsimp only); (try k_unfold); (try dsimp only)
    (rename News _ _ _ _ => hN)
    exact ⟨_, _, _, [(hda, lstOf [.ref ls, .int (p + 1) _] _), (ls, lstOf ys yn)], rfl, by k_asm, (fun q hq => hN q ((by kcf_all : ∀ q ∈ [(hda, lstOf [.ref ls, .int (p + 1) _] _), (ls, lstOf ys yn)], q ∈ _) q hq)), _, _, _, _, rfl, fmod_lo9 _ hm0, fmod_hi9 _ hm0, rfl⟩
theorem fig_ok (w : World) (mean : ExcName → Option Value) (mg mb : Str → Option Value) (hda ls : Addr) (p many : Int) (tp tm : Tok) (n yn : Nat) (ys : List Value) (ns : List Int)
   (hne : @Ne Nat hda ls) (hI : IntsAre ys ns) (hlen : ns.length ≤ 63) (hall : ∀ x ∈ ns, 0 ≤ x ∧ x < 10 ^ 9) (hp0 : 0 ≤ p) (hp1 : p ≤ 1000) (hm0 : 1 ≤ many) (hm1 : many ≤ 100) :
   (FnM 2 w mean mg mb 225 [.ref hda, .int many tm] [(hda, lstOf [.ref ls, .int p tp] n), (ls, lstOf ys yn)] (PFig many p hda ls (lstOf ys yn))) := by
  cases ns with
  | nil =>
    cases hI
    exact fig0_ok w mean mg mb hda ls p many tp tm n yn hne hp0 hp1 hm0 hm1
  | cons k r => exact fig1_ok w mean mg mb hda ls p many tp tm n yn ys _ hne hI (by simp) hlen hall hp0 hp1 hm0 hm1
end Mine
end
section
open PySem PySem.W PyProof.Rows PySem.Calls PySem.Spec
namespace Mine
-- CBox
section
variable {w : World} {mean : ExcName → Option Value} {mg mb : Str → Option Value} {news : List (Addr × Obj)}
  {dp un : Nat} {gd : Option (List Code)} {cn : Str} {cs : Scope} {a : Addr} {ccd : Value} {cl : List (Str × Addr)} {outer : List Env} {A₀ : Around} {base h₀ : Heap} {L : Addr} {m : Str → Option Value} {s : Shared} {Q E : Value → Shared → Prop}
theorem fig_use {hda ls : Addr} {p many : Int} {tp tm : Tok} {n yn : Nat} {ys : List Value} {ns : List Int} {g : Obj → List (Addr × Obj)}
   (hI : IntsAre ys ns) (hall : ∀ x ∈ ns, 0 ≤ x ∧ x < 10 ^ 9) (hne : @Ne Nat hda ls) (hlen : ns.length ≤ 63)
   (B : Below A₀ base outer h₀) (F : Fr h₀ L s.heap m) (X : (hd.heap_39 w.params).In h₀) (N : News h₀ L s.heap news) (T : Top viewL (looseW viewL []) mean mg mb h₀) (hk : cs.kind = .function)
   (hd : dp + 2 < recursionLimit) (hu : un + 100 * 2 < cLine) (U : UpdF hda (lstOf [.ref ls, .int p tp] n) news g) (hm : (ls, lstOf ys yn) ∈ news)
   (hp0 : 0 ≤ p) (hp1 : p ≤ 1000) (hm0 : 1 ≤ many) (hm1 : many ≤ 100)
   (k : ∀ r tr h' tk' tp' n', 0 ≤ r → r < many → Fr h₀ L h' m → News h₀ L h' (g (lstOf [.ref ls, .int (p + 1) tp'] n')) → Q (.int r tr) { s with heap := h', toks := tk' }) :
    wpAny (model PySem.Challenge.rw_ok0088_01.row.prog w) (ktrTop dp un gd cn cs L a ccd cl outer) (call (.ref 225) [.ref hda, .int many tm]) Q E s := by
  refine FnM.use (fig_ok w mean mg mb hda ls p many tp tm n yn ys ns hne hI hlen hall hp0 hp1 hm0 hm1) B F X N T hk hd hu U hm fun v now h' tk' F' _ _ hg hp => ?_
  obtain ⟨r, tr, tp', n', rfl, h1, h2, rfl⟩ := hp
  exact k r tr h' tk' tp' n' h1 h2 F' (hg _ (.head _) (.tail _ (.head _)))
end
theorem nn1 {p : Int} (h : 0 ≤ p) : 0 ≤ p + 1 := by omega
theorem nn2 {p : Int} (h : 0 ≤ p) : 0 ≤ p + 1 + 1 := by omega
theorem nn3 {p : Int} (h : 0 ≤ p) : 0 ≤ p + 1 + 1 + 1 := by omega
theorem nn4 {p : Int} (h : 0 ≤ p) : 0 ≤ p + 1 + 1 + 1 + 1 := by omega
theorem nn5 {p : Int} (h : 0 ≤ p) : 0 ≤ p + 1 + 1 + 1 + 1 + 1 := by omega
theorem nn6 {p : Int} (h : 0 ≤ p) : 0 ≤ p + 1 + 1 + 1 + 1 + 1 + 1 := by omega
theorem up0 {p : Int} (h : p ≤ 900) : p ≤ 1000 := by omega
theorem up1 {p : Int} (h : p ≤ 900) : p + 1 ≤ 1000 := by omega
theorem up2 {p : Int} (h : p ≤ 900) : p + 1 + 1 ≤ 1000 := by omega
theorem up3 {p : Int} (h : p ≤ 900) : p + 1 + 1 + 1 ≤ 1000 := by omega
theorem up4 {p : Int} (h : p ≤ 900) : p + 1 + 1 + 1 + 1 ≤ 1000 := by omega
theorem up5 {p : Int} (h : p ≤ 900) : p + 1 + 1 + 1 + 1 + 1 ≤ 1000 := by omega
theorem up6 {p : Int} (h : p ≤ 900) : p + 1 + 1 + 1 + 1 + 1 + 1 ≤ 1000 := by omega
local macro_rules | `(tactic| walk_at "call ref") => `(tactic| (k_here; (with_reducible show wpAny _ _ (call (Value.ref 225) [_, _]) _ _ _); k_dflt (refine' fig_use ?hI ?hall ?hne ?hlen ?B ?F ?X ?N ?T ?hk ?hd ?hu ?U ?hm ?hp0 ?hp1 ?hm0 ?hm1 ?_; (case hI => assumption); (case hall => assumption); (case B => k_asm); (case F => k_asm); (case X => k_asm); (case N => k_asm); (case T => k_asm); (case hk => first | exact rfl | assumption); (case U => k_updF); (case hm => k_mem); (case hne => assumption); (case hlen => assumption); (case hd => ktr_room); (case hu => ktr_units); (case hp0 => first | assumption | exact nn1 (by assumption) | exact nn2 (by assumption) | exact nn3 (by assumption) | exact nn4 (by assumption) | exact nn5 (by assumption) | exact nn6 (by assumption) | omega); (case hp1 => first | exact up0 (by assumption) | exact up1 (by assumption) | exact up2 (by assumption) | exact up3 (by assumption) | exact up4 (by assumption) | exact up5 (by assumption) | exact up6 (by assumption) | omega); (case hm0 => decide); (case hm1 => decide); k_whole); intro r9 t9 h9 tk9 tp9 n9 hr9 hr8 F9 N9; (try dsimp only); (try k_sweep)))
theorem box_p (p : Int) : p + 1 + 1 + 1 + 1 + 1 + 1 + 1 = p + 7 := by omega
theorem box_x {a b : Int} (h1 : 0 ≤ a) (h2 : a < 11) (h3 : 0 ≤ b) (h4 : b < 5) : -9 ≤ a - 5 - b ∧ a - 5 + b ≤ 9 ∧ a - 5 - b ≤ a - 5 + b := by omega
theorem box_y0 {a b : Int} (h1 : 0 ≤ a) (h2 : a < 9) (h3 : 0 ≤ b) (h4 : b < 4) : -12 ≤ 1 + a ∧ 1 + a + b ≤ 12 ∧ 1 + a ≤ 1 + a + b := by omega
theorem box_y1 {a b : Int} (h1 : 0 ≤ a) (h2 : a < 9) (h3 : 0 ≤ b) (h4 : b < 4) : -12 ≤ 0 - (1 + a) - b ∧ 0 - (1 + a) ≤ 12 ∧ 0 - (1 + a) - b ≤ 0 - (1 + a) := by omega
theorem box_y2 {a b : Int} (h1 : 0 ≤ a) (h2 : a < 9) (h3 : 0 ≤ b) (h4 : b < 4) : -12 ≤ 0 - (1 + a) ∧ b ≤ 12 ∧ 0 - (1 + a) ≤ b := by omega
theorem box_y3 {a b : Int} (h1 : 0 ≤ a) (h2 : a < 9) (h3 : 0 ≤ b) (h4 : b < 4) : -12 ≤ 0 - b ∧ 1 + a ≤ 12 ∧ 0 - b ≤ 1 + a := by omega
theorem box_z {a b : Int} (h1 : 0 ≤ a) (h2 : a < 13) (h3 : 0 ≤ b) (h4 : b < 4) : -6 ≤ a - 6 ∧ a - 6 + b ≤ 9 ∧ a - 6 ≤ a - 6 + b := by omega
def PBox (p : Int) (hda ls : Addr) (ol : Obj) (v : Value) (now : List (Addr × Obj)) : Prop :=
  ∃ bx t0 t1 t2 nb x0 x1 y0 y1 z0 z1 u0 u1 u2 u3 u4 u5 q tq n, v = .ref bx ∧ now = (hda, lstOf [.ref ls, .int q tq] n) :: (ls, ol) :: boxO bx t0 t1 t2 nb x0 x1 y0 y1 z0 z1 u0 u1 u2 u3 u4 u5 ∧ q = p + 7 ∧
    (-9 ≤ x0 ∧ x1 ≤ 9 ∧ x0 ≤ x1) ∧ (-12 ≤ y0 ∧ y1 ≤ 12 ∧ y0 ≤ y1) ∧ (-6 ≤ z0 ∧ z1 ≤ 9 ∧ z0 ≤ z1) ∧ (@Ne Nat bx hda ∧ @Ne Nat bx ls ∧ @Ne Nat t0 hda ∧ @Ne Nat t0 ls ∧ @Ne Nat t1 hda ∧ @Ne Nat t1 ls ∧ @Ne Nat t2 hda ∧ @Ne Nat t2 ls)
set_option maxRecDepth 100000 in
set_option maxHeartbeats 8000000 in
theorem box_ok (w : World) (mean : ExcName → Option Value) (mg mb : Str → Option Value) (hda ls : Addr) (p : Int) (tp : Tok) (n yn : Nat) (ys : List Value) (ns : List Int)
   (hne : @Ne Nat hda ls) (hI : IntsAre ys ns) (hlen : ns.length ≤ 63) (hall : ∀ x ∈ ns, 0 ≤ x ∧ x < 10 ^ 9) (hp0 : 0 ≤ p) (hp1 : p ≤ 900) :
   (FnM 4 w mean mg mb 239 [.ref hda] [(hda, lstOf [.ref ls, .int p tp] n), (ls, lstOf ys yn)] (PBox p hda ls (lstOf ys yn))) := by
  unfold FnM
  k_fill
  (intro dp un gd cn cs a0 ccd cl outer A₀ base h₀ L m s Q E B F X N T hk hd hu hQ)
  k_dflt (refine' enterGM B F X N T ?kA ?kF ?kK ?k6 ?k7 ?k8 ?k9 ?kB hQ ?_ ?c2 ?c3 ?c4 ?c5; (case kA => exact rfl); (case kF => exact rfl); (case kK => exact hk); (case k6 => k_is); (case k7 => k_is); (case k8 => ktr_room); (case k9 => exact BindsTo.of_eq rfl); (case c5 => decide); (case kB => exact locs rfl); (case c2 => exact rfl); (case c3 => exact rfl); (case c4 => exact rfl); k_whole)
  clear B F X N T hk hQ
  intro g' h' F' N' B' X' T' l1
  (try k_lt l1)
  (try dsimp only)
  (try k_fold)
  k_steps
  all_goals (try dsimp only)
  all_goals (try k_unfold)
  all_goals (try dsimp only)
  all_goals (rename News _ _ _ _ => hN)
  all_goals refine ⟨_, _, _, (hda, lstOf [.ref ls, .int _ _] _) :: (ls, lstOf ys yn) :: boxO _ _ _ _ _ _ _ _ _ _ _ _ _ _ _ _ _, rfl, by k_asm, (fun q hq => hN q ((by kcf_all : ∀ q ∈ (hda, lstOf [.ref ls, .int _ _] _) :: (ls, lstOf ys yn) :: boxO _ _ _ _ _ _ _ _ _ _ _ _ _ _ _ _ _, q ∈ _) q hq)), _, _, _, _, _, _, _, _, _, _, _, _, _, _, _, _, _, _, _, _, rfl, rfl, ?_, ?_, ?_, ?_, ?_⟩
  all_goals first
    | exact box_p p
    | exact box_x (by assumption) (by assumption) (by assumption) (by assumption)
    | exact box_y0 (by assumption) (by assumption) (by assumption) (by assumption)
    | exact box_y1 (by assumption) (by assumption) (by assumption) (by assumption)
    | exact box_y2 (by assumption) (by assumption) (by assumption) (by assumption)
    | exact box_y3 (by assumption) (by assumption) (by assumption) (by assumption)
    | exact box_z (by assumption) (by assumption) (by assumption) (by assumption)
    | exact ⟨by k_ne, by k_ne, by k_ne, by k_ne, by k_ne, by k_ne, by k_ne, by k_ne⟩
    | omega

section
variable {w : World} {mean : ExcName → Option Value} {mg mb : Str → Option Value} {news : List (Addr × Obj)}
  {dp un : Nat} {gd : Option (List Code)} {cn : Str} {cs : Scope} {a : Addr} {ccd : Value} {cl : List (Str × Addr)} {outer : List Env} {A₀ : Around} {base h₀ : Heap} {L : Addr} {m : Str → Option Value} {s : Shared} {Q E : Value → Shared → Prop}
theorem box_use {hda ls cc : Addr} {co : Obj} {p : Int} {tp : Tok} {n yn : Nat} {ys : List Value} {ns : List Int} {g : Obj → List (Addr × Obj)}
   (hI : IntsAre ys ns) (hall : ∀ x ∈ ns, 0 ≤ x ∧ x < 10 ^ 9) (hne : @Ne Nat hda ls) (hlen : ns.length ≤ 63)
   (B : Below A₀ base outer h₀) (F : Fr h₀ L s.heap m) (X : (hd.heap_39 w.params).In h₀) (N : News h₀ L s.heap news) (T : Top viewL (looseW viewL []) mean mg mb h₀) (hk : cs.kind = .function)
   (hd : dp + 4 < recursionLimit) (hu : un + 100 * 4 < cLine) (U : UpdF hda (lstOf [.ref ls, .int p tp] n) news g) (hm : (ls, lstOf ys yn) ∈ news) (hcc : (cc, co) ∈ news) (hc1 : @Ne Nat cc hda) (hc2 : @Ne Nat cc ls)
   (hp0 : 0 ≤ p) (hp1 : p ≤ 900)
   (k : ∀ bx t0 t1 t2 nb x0 x1 y0 y1 z0 z1 u0 u1 u2 u3 u4 u5 tq n' h' tk', (-9 ≤ x0 ∧ x1 ≤ 9 ∧ x0 ≤ x1) → (-12 ≤ y0 ∧ y1 ≤ 12 ∧ y0 ≤ y1) → (-6 ≤ z0 ∧ z1 ≤ 9 ∧ z0 ≤ z1) → (@Ne Nat bx cc ∧ @Ne Nat t0 cc ∧ @Ne Nat t1 cc ∧ @Ne Nat t2 cc) → Fr h₀ L h' m →
     News h₀ L h' (boxO bx t0 t1 t2 nb x0 x1 y0 y1 z0 z1 u0 u1 u2 u3 u4 u5 ++ g (lstOf [.ref ls, .int (p + 7) tq] n')) → Q (.ref bx) { s with heap := h', toks := tk' }) :
    wpAny (model PySem.Challenge.rw_ok0088_01.row.prog w) (ktrTop dp un gd cn cs L a ccd cl outer) (call (.ref 239) [.ref hda]) Q E s := by
  have hnc : s.heap.get? cc = some co := (N _ hcc).1
  refine FnM.use (box_ok w mean mg mb hda ls p tp n yn ys ns hne hI hlen hall hp0 hp1) B F X N T hk hd hu U hm fun v now h' tk' F' NN hfr hg hp => ?_
  obtain ⟨bx, t0, t1, t2, nb, x0, x1, y0, y1, z0, z1, u0, u1, u2, u3, u4, u5, q, tq, n', rfl, rfl, rfl, hx, hy, hz, h1, h2, h3, h4, h5, h6, h7, h8⟩ := hp
  have off : ∀ q ∈ boxO bx t0 t1 t2 nb x0 x1 y0 y1 z0 z1 u0 u1 u2 u3 u4 u5, q.1 ≠ cc := fun q hq e => by
    rcases hfr q (.tail _ (.tail _ hq)) with h9 | h9
    · rw [e, hnc] at h9; cases h9
    · rw [e] at h9
      simp only [List.mem_cons, List.not_mem_nil, or_false] at h9
      exact h9.elim hc1 hc2
  refine k bx t0 t1 t2 nb x0 x1 y0 y1 z0 z1 u0 u1 u2 u3 u4 u5 tq n' h' tk' hx hy hz ⟨off _ (.head _), off _ (.tail _ (.head _)), off _ (.tail _ (.tail _ (.head _))), off _ (.tail _ (.tail _ (.tail _ (.head _))))⟩ F' fun q hq => ?_
  rcases List.mem_append.mp hq with hq | hq
  · exact NN q (.tail _ (.tail _ hq))
  · exact hg _ (.head _) (.tail _ (.head _)) q hq
end
end Mine
end
section
open PySem
namespace Mine
-- SetA
/-- a table whose places rise, without dummies -/
structure Good (b : Bool) (t : SetTable) : Prop where
  led : t.led = b
  rise : t.place.toList.Pairwise (· < ·)
  clean : t.dummies = #[]

theorem below_go {xs : Array Nat} {j : Nat} (R : xs.toList.Pairwise (· < ·)) : ∀ (fuel lo hi : Nat), lo ≤ hi → hi ≤ xs.size → hi - lo ≤ fuel →
    (∀ k (hk : k < xs.size), k < lo → xs[k] < j) → (∀ k (hk : k < xs.size), hi ≤ k → j ≤ xs[k]) →
    SetTable.below.go xs j fuel lo hi ≤ xs.size ∧ (∀ k (hk : k < xs.size), k < SetTable.below.go xs j fuel lo hi → xs[k] < j) ∧ (∀ k (hk : k < xs.size), SetTable.below.go xs j fuel lo hi ≤ k → j ≤ xs[k]) := by
  have mono : ∀ a b (ha : a < xs.size) (hb : b < xs.size), a < b → xs[a] < xs[b] := fun a b ha hb hab => by
    have := List.pairwise_iff_getElem.mp R a b (by simpa using ha) (by simpa using hb) hab
    simpa using this
  intro fuel
  induction fuel with
  | zero =>
    intro lo hi h1 h2 h3 h4 h5
    unfold SetTable.below.go
    have : lo = hi := by omega
    subst this
    exact ⟨h2, h4, h5⟩
  | succ fuel ih =>
    intro lo hi h1 h2 h3 h4 h5
    unfold SetTable.below.go
    by_cases hlt : lo < hi
    · rw [if_pos hlt]
      have hm : (lo + hi) / 2 < xs.size := by omega
      have hg : xs.getD ((lo + hi) / 2) j = xs[(lo + hi) / 2] := by simp [Array.getD, hm]
      show (let mid := (lo + hi) / 2; if xs.getD mid j < j then SetTable.below.go xs j fuel (mid + 1) hi else SetTable.below.go xs j fuel lo mid) ≤ xs.size ∧ _
      dsimp only
      rw [hg]
      by_cases hc : xs[(lo + hi) / 2] < j
      · rw [if_pos hc]
        refine ih _ _ (by omega) h2 (by omega) (fun k hk hk' => ?_) h5
        by_cases e : k = (lo + hi) / 2
        · subst e; exact hc
        · exact Nat.lt_trans (mono k _ hk hm (by omega)) hc
      · rw [if_neg hc]
        refine ih _ _ (by omega) (by omega) (by omega) h4 (fun k hk hk' => ?_)
        by_cases e : k = (lo + hi) / 2
        · subst e; omega
        · have := mono _ k hm hk (by omega); omega
    · rw [if_neg hlt]
      have : lo = hi := by omega
      subst this
      exact ⟨h2, h4, h5⟩

theorem below_spec {xs : Array Nat} (R : xs.toList.Pairwise (· < ·)) (j : Nat) :
    SetTable.below xs j ≤ xs.size ∧ (∀ k (hk : k < xs.size), k < SetTable.below xs j → xs[k] < j) ∧ (∀ k (hk : k < xs.size), SetTable.below xs j ≤ k → j ≤ xs[k]) :=
  below_go R xs.size 0 xs.size (Nat.zero_le _) (Nat.le_refl _) (by omega) (fun k _ h => absurd h (Nat.not_lt_zero _)) (fun k hk h => absurd hk (Nat.not_lt.mpr h))

theorem below_zero {xs : Array Nat} (R : xs.toList.Pairwise (· < ·)) : SetTable.below xs 0 = 0 := by
  obtain ⟨h1, h2, _⟩ := below_spec R 0
  cases hb : SetTable.below xs 0 with
  | zero => rfl
  | succ n => exact absurd (h2 0 (by omega) (by omega)) (Nat.not_lt_zero _)
theorem below_next {xs : Array Nat} (R : xs.toList.Pairwise (· < ·)) {i : Nat} (hi : i < xs.size) : SetTable.below xs (xs[i] + 1) = i + 1 := by
  obtain ⟨h1, h2, h3⟩ := below_spec R (xs[i] + 1)
  have mono : ∀ a b (ha : a < xs.size) (hb : b < xs.size), a < b → xs[a] < xs[b] := fun a b ha hb hab => by
    have := List.pairwise_iff_getElem.mp R a b (by simpa using ha) (by simpa using hb) hab
    simpa using this
  refine Nat.le_antisymm (Nat.le_of_not_lt fun hlt => ?_) (Nat.le_of_not_lt fun hlt => ?_)
  · have h4 : i + 1 < xs.size := by omega
    have := h2 (i + 1) h4 hlt
    have := mono i (i + 1) hi h4 (Nat.lt_succ_self _)
    omega
  · have := h3 i hi (by omega)
    omega

theorem rise_insert {xs : Array Nat} (R : xs.toList.Pairwise (· < ·)) {j : Nat} (hj : xs[SetTable.below xs j]? ≠ some j) : (SetTable.insertAt xs (SetTable.below xs j) j).toList.Pairwise (· < ·) := by
  rw [SetTable.toList_insertAt]
  obtain ⟨h1, h2, h3⟩ := below_spec R j
  have mono : ∀ a b (ha : a < xs.size) (hb : b < xs.size), a < b → xs[a] < xs[b] := fun a b ha hb hab => by
    have := List.pairwise_iff_getElem.mp R a b (by simpa using ha) (by simpa using hb) hab
    simpa using this
  have hl : ∀ a ∈ xs.toList.take (SetTable.below xs j), a < j := fun a ha => by
    obtain ⟨k, hk, rfl⟩ := List.mem_take_iff_getElem.mp ha
    have hk' : k < xs.size ∧ k < SetTable.below xs j := by
      have : k < min (SetTable.below xs j) xs.toList.length := hk
      simp at this; omega
    have := h2 k hk'.1 hk'.2
    simpa using this
  have hr : ∀ b ∈ xs.toList.drop (SetTable.below xs j), j < b := fun b hb => by
    obtain ⟨k, hk, rfl⟩ := List.mem_drop_iff_getElem.mp hb
    have hk' : SetTable.below xs j + k < xs.size := by have := hk; simp at this; omega
    have h4 := h3 _ hk' (by omega)
    have hp : SetTable.below xs j < xs.size := by omega
    have h5 := h3 _ hp (Nat.le_refl _)
    have h6 : xs[SetTable.below xs j] ≠ j := fun e => hj (by rw [Array.getElem?_eq_getElem hp, e])
    have h7 : xs[SetTable.below xs j] ≤ xs[SetTable.below xs j + k] := by
      by_cases e : k = 0
      · subst e; exact Nat.le_refl _
      · exact Nat.le_of_lt (mono _ _ hp hk' (by omega))
    have h8 : j < xs[SetTable.below xs j + k] := by omega
    simpa [Nat.add_comm] using h8
  refine List.pairwise_append.mpr ⟨R.sublist (List.take_sublist ..), List.pairwise_cons.mpr ⟨hr, R.sublist (List.drop_sublist ..)⟩, fun a ha b hb => ?_⟩
  rcases List.mem_cons.mp hb with rfl | hb
  · exact hl a ha
  · exact Nat.lt_trans (hl a ha) (hr b hb)

theorem has_none (j : Nat) : SetTable.has #[] j = false := by simp [SetTable.has]
theorem probe_free {t : SetTable} (hc : t.dummies = #[]) {ha : Nat → Int} {h : Int} : ∀ (fuel : Nat) (p : SetTable.Probe) {j : Nat} {d : Option Nat}, p.dummy = none → SetTable.probe.go t ha h fuel p = some (.empty j d) → d = none ∧ t.slot j = .empty := by
  intro fuel
  induction fuel with
  | zero => intro p j d _ e; unfold SetTable.probe.go at e; cases e
  | succ fuel ih =>
    intro p j d hd e
    have adv : (t.advance p).dummy = none := by
      unfold SetTable.advance; split
      · exact hd
      · exact hd
    unfold SetTable.probe.go at e
    split at e
    · rename_i hs
      cases e
      exact ⟨hd, hs⟩
    · rename_i hs
      unfold SetTable.slot at hs
      dsimp only at hs
      split at hs
      · cases hs
      · rw [hc, has_none] at hs
        simp at hs
    · split at e
      · cases e
      · exact ih _ adv e
theorem freeSlot_free {t : SetTable} (hc : t.dummies = #[]) {h : Int} {j : Nat} {b : Bool} (e : t.freeSlot h = some (j, b)) : t.place[SetTable.below t.place j]? ≠ some j := by
  unfold SetTable.freeSlot at e
  split at e
  · rename_i j' d hp
    obtain ⟨hd, hs⟩ := probe_free hc _ _ (by rfl) hp
    subst hd
    cases e
    intro he
    unfold SetTable.slot at hs
    dsimp only at hs
    have he' : t.place[SetTable.below t.place j']? = some j' := he
    simp [he'] at hs
  · cases e

theorem Good.standIn {b : Bool} {t : SetTable} (g : Good b t) (n : Nat) : Good b (t.standIn n) where
  led := g.led
  rise := by
    show (Array.range n).toList.Pairwise (· < ·)
    rw [Array.toList_range]
    exact List.pairwise_lt_range
  clean := rfl
theorem Good.orStandIn {b : Bool} {t : SetTable} (g : Good b t) (n : Nat) : Good b (t.orStandIn n) := by
  unfold SetTable.orStandIn; split
  · exact g
  · exact g.standIn n
theorem Good.plainOff {b : Bool} {t : SetTable} (g : Good b t) : Good b { t with plain := false } := ⟨g.led, g.rise, g.clean⟩
theorem layNew_good {b : Bool} {t : SetTable} (g : Good b t) (es : Array (Int × Value)) (h : Int) (x : Value) : Good b (layNew t es h x).2.1 := by
  unfold layNew
  split
  · rename_i slot wd hf
    have hs := freeSlot_free g.clean hf
    refine Good.orStandIn ?_ _
    refine ⟨g.led, ?_, ?_⟩
    · exact rise_insert g.rise hs
    · show (if SetTable.has t.dummies slot then _ else t.dummies) = #[]
      rw [g.clean, has_none]
      rfl
  · exact g.standIn _
theorem relayAll_good {b : Bool} {t : SetTable} (g : Good b t) (es : Array (Int × Value)) (wanted : Nat) : Good b (relayAll t es wanted).2.1 := by
  unfold relayAll
  split
  · rename_i t' order hr
    dsimp only
    split
    · unfold SetTable.relaid SetTable.laid at hr
      obtain ⟨owner, _, hr⟩ := Option.bind_eq_some_iff.mp hr
      cases hr
      refine ⟨g.led, ?_, rfl⟩
      dsimp only
      rw [List.map_filterMap]
      refine List.Pairwise.sublist ?_ (List.pairwise_lt_range (n := SetTable.sizeAbove wanted - 1 + 1))
      have : ∀ l : List Nat, List.Sublist (l.filterMap fun j => Option.map (fun x : Nat × Nat => x.1) (Option.map (fun k => (j, k)) (owner.getD j none))) l := by
        intro l
        induction l with
        | nil => exact .slnil
        | cons a r ih =>
          rw [List.filterMap_cons]
          cases hq : owner.getD a none with
          | none => exact .cons _ ih
          | some k => exact .cons_cons _ ih
      exact this _
    · exact g.standIn _
  · exact g.standIn _
end Mine
end
section
open PySem
set_option maxRecDepth 100000
namespace Mine
-- SetP
/-- the probe's next stand, by the mask alone -/
def adv (mask : Nat) (p : SetTable.Probe) : SetTable.Probe :=
  if p.more > 0 then { p with j := p.j + 1, more := p.more - 1 } else
  let (i, perturb) := SetTable.leap mask p.i p.perturb
  { p with j := i, more := SetTable.runEnd mask i - i, i, perturb }
theorem adv_eq (t : SetTable) (p : SetTable.Probe) : t.advance p = adv t.mask p := rfl
def start (mask : Nat) (h : Int) : SetTable.Probe :=
  let i := SetTable.bits h % (mask + 1)
  { j := i, more := SetTable.runEnd mask i - i, i, perturb := SetTable.bits h, dummy := none }
theorem start_eq (t : SetTable) (h : Int) : t.probeStart h = start t.mask h := rfl
def visit (mask : Nat) : Nat → SetTable.Probe → Nat → Nat
  | 0, _, acc => acc
  | n + 1, p, acc => visit mask n (adv mask p) (acc ||| 1 <<< p.j)
def runs (mask : Nat) : Nat → Nat → Nat → Nat → Nat
  | 0, _, _, acc => acc
  | n + 1, i, q, acc => runs mask n (SetTable.leap mask i q).1 (SetTable.leap mask i q).2 (acc ||| (2 ^ (SetTable.runEnd mask i + 1 - i) - 1) <<< i)
def near (n : Fin 25) : Int := (n.val : Int) - 12
theorem visit_all : ∀ m ∈ [7, 31, 127], ∀ n : Fin 25, visit m (10 * SetTable.turns m) (start m (near n)) 0 &&& (2 ^ (m + 1) - 1) = 2 ^ (m + 1) - 1 := by decide +kernel
theorem runs_all : ∀ m ∈ [31, 127], ∀ n : Fin 25, runs m (SetTable.turns m) (SetTable.bits (near n) % (m + 1)) (SetTable.bits (near n)) 0 &&& (2 ^ (m + 1) - 1) = 2 ^ (m + 1) - 1 := by decide +kernel
theorem near_of {h : Int} (h1 : -12 ≤ h) (h2 : h ≤ 12) : ∃ n, near n = h := ⟨⟨(h + 12).toNat, by omega⟩, by unfold near; simp; omega⟩
theorem hash_near (n : Fin 25) : -12 ≤ hashInt (near n) ∧ hashInt (near n) ≤ 12 := by revert n; decide +kernel
theorem full_bit {m j v : Nat} (h : v &&& (2 ^ (m + 1) - 1) = 2 ^ (m + 1) - 1) (hj : j ≤ m) : v.testBit j = true := by
  have := congrArg (·.testBit j) h
  simp only [Nat.testBit_and, Nat.testBit_two_pow_sub_one] at this
  have hd : decide (j < m + 1) = true := by simp; omega
  rw [hd] at this
  simpa using this

theorem probe_some {t : SetTable} (hc : t.dummies = #[]) {h : Int} : ∀ (fuel : Nat) (p : SetTable.Probe) (acc j : Nat), (visit t.mask fuel p acc).testBit j = true → acc.testBit j = false → t.slot j = .empty →
    ∃ j' d, SetTable.probe.go t (fun _ => h + 1) h fuel p = some (.empty j' d) := by
  intro fuel
  induction fuel with
  | zero => intro p acc j hv ha _; unfold visit at hv; rw [hv] at ha; cases ha
  | succ fuel ih =>
    intro p acc j hv ha hs
    unfold visit at hv
    unfold SetTable.probe.go
    cases hq : t.slot p.j with
    | empty => exact ⟨_, _, rfl⟩
    | dummy =>
      exfalso
      unfold SetTable.slot at hq
      dsimp only at hq
      split at hq
      · cases hq
      · rw [hc, has_none] at hq; simp at hq
    | live i =>
      dsimp only
      rw [if_neg (by simp; omega)]
      refine ih (t.advance p) (acc ||| 1 <<< p.j) j hv ?_ hs
      have hne : p.j ≠ j := fun e => by rw [e, hs] at hq; cases hq
      rw [Nat.testBit_or, ha, Bool.false_or]
      rw [Nat.one_shiftLeft, Nat.testBit_two_pow]
      simp [hne]

theorem slot_empty_of {t : SetTable} (hc : t.dummies = #[]) (hr : t.place.toList.Pairwise (· < ·)) {j : Nat} (hj : j ∉ t.place.toList) : t.slot j = .empty := by
  unfold SetTable.slot
  dsimp only
  rw [if_neg, hc, has_none]
  · rfl
  · intro e
    have e' : t.place[SetTable.below t.place j]? = some j := by simpa using e
    exact hj (by have := Array.mem_of_getElem? e'; simpa using this)
theorem holes : ∀ (m : Nat) (l : List Nat), (∀ j, j < m → j ∈ l) → m ≤ l.length
  | 0, _, _ => Nat.zero_le _
  | m + 1, l, h => by
    have hm := h m (Nat.lt_succ_self _)
    have := holes m (l.erase m) fun j hj => (List.mem_erase_of_ne (Nat.ne_of_lt hj)).mpr (h j (by omega))
    rw [List.length_erase_of_mem hm] at this
    have := List.length_pos_of_mem hm
    omega
theorem free_exists {l : List Nat} {m : Nat} (hlen : l.length ≤ m) : ∃ j, j ≤ m ∧ j ∉ l := by
  refine Classical.byContradiction fun hn => ?_
  have := holes (m + 1) l fun j hj => Classical.byContradiction fun h => hn ⟨j, by omega, h⟩
  omega
theorem freeSlot_some {t : SetTable} (hc : t.dummies = #[]) (hr : t.place.toList.Pairwise (· < ·)) (hm : t.mask ∈ [7, 31, 127]) (hl : t.place.size ≤ t.mask) {h : Int} (h1 : -12 ≤ h) (h2 : h ≤ 12) :
    ∃ j b, t.freeSlot h = some (j, b) := by
  obtain ⟨n, rfl⟩ := near_of h1 h2
  obtain ⟨j, hj, hjn⟩ := free_exists (l := t.place.toList) (m := t.mask) (by simpa using hl)
  obtain ⟨j', d, e⟩ := probe_some hc (10 * SetTable.turns t.mask) (start t.mask (near n)) 0 j (full_bit (visit_all t.mask hm n) hj) (by simp) (slot_empty_of hc hr hjn)
  unfold SetTable.freeSlot SetTable.probe
  rw [start_eq, e]
  exact ⟨_, _, rfl⟩
end Mine
end
section
open PySem
set_option maxRecDepth 100000
namespace Mine
-- SetQ
theorem free_some {mask : Nat} {owner : Array (Option Nat)} : ∀ (fuel i q acc j : Nat), (runs mask fuel i q acc).testBit j = true → acc.testBit j = false → owner.getD j (some 0) = none →
    ∃ j', SetTable.layClean.free mask owner fuel i q = some j' ∧ owner.getD j' (some 0) = none := by
  intro fuel
  induction fuel with
  | zero => intro i q acc j hv ha _; unfold runs at hv; rw [hv] at ha; cases ha
  | succ fuel ih =>
    intro i q acc j hv ha hs
    unfold runs at hv
    unfold SetTable.layClean.free
    cases hf : (List.range (SetTable.runEnd mask i + 1 - i)).find? fun k => (owner.getD (i + k) (some 0)).isNone with
    | some k =>
      have := List.find?_some hf
      exact ⟨i + k, rfl, by simpa using this⟩
    | none =>
      dsimp only
      refine ih _ _ _ j hv ?_ hs
      rw [Nat.testBit_or, ha, Bool.false_or, Nat.testBit_shiftLeft, Nat.testBit_two_pow_sub_one]
      have hno := List.find?_eq_none.mp hf
      by_cases hle : i ≤ j
      · by_cases hlt : j - i < SetTable.runEnd mask i + 1 - i
        · exfalso
          have := hno (j - i) (List.mem_range.mpr hlt)
          rw [show i + (j - i) = j by omega, hs] at this
          exact this rfl
        · simp [hlt]
      · simp [hle]

theorem exists_none {l : List (Option Nat)} (h : (l.filterMap id).length < l.length) : ∃ j, ∃ hj : j < l.length, l[j] = none := by
  induction l with
  | nil => simp at h
  | cons a r ih =>
    cases a with
    | none => exact ⟨0, by simp, rfl⟩
    | some v =>
      have : (r.filterMap id).length < r.length := by simpa using h
      obtain ⟨j, hj, e⟩ := ih this
      exact ⟨j + 1, by simpa using hj, by simpa using e⟩
theorem set_perm : ∀ {l : List (Option Nat)} {j k : Nat} (hj : j < l.length), l[j] = none → ((l.set j (some k)).filterMap id).Perm (k :: l.filterMap id)
  | a :: r, 0, k, _, e => by
    have e' : a = none := e
    subst e'
    simp
  | a :: r, j + 1, k, hj, e => by
    have ih := set_perm (l := r) (j := j) (k := k) (by simpa using hj) (by simpa using e)
    cases a with
    | none => simpa using ih
    | some v =>
      simp only [List.set_cons_succ, List.filterMap_cons_some (b := v) (f := id) (a := some v) rfl]
      exact (ih.cons v).trans (List.Perm.swap k v _)

def laySt (mask : Nat) (acc : Option (Array (Option Nat) × Nat)) (h : Int) : Option (Array (Option Nat) × Nat) := do
  let (owner, k) ← acc
  let j ← SetTable.layClean.free mask owner (SetTable.turns mask) (SetTable.bits h % (mask + 1)) (SetTable.bits h)
  pure (owner.setIfInBounds j (some k), k + 1)
theorem lay_fold {mask : Nat} (hm : mask ∈ [31, 127]) : ∀ (hs : List Int) (owner : Array (Option Nat)) (k : Nat), owner.size = mask + 1 → (owner.toList.filterMap id).Perm (List.range k) → k + hs.length ≤ mask → (∀ h ∈ hs, -12 ≤ h ∧ h ≤ 12) →
    ∃ owner', hs.foldl (laySt mask) (some (owner, k)) = some (owner', k + hs.length) ∧ owner'.size = mask + 1 ∧ (owner'.toList.filterMap id).Perm (List.range (k + hs.length)) := by
  intro hs
  induction hs with
  | nil => intro owner k h1 h2 _ _; exact ⟨owner, rfl, h1, h2⟩
  | cons h r ih =>
    intro owner k h1 h2 h3 h4
    obtain ⟨n, rfl⟩ := near_of (h4 _ (.head _)).1 (h4 _ (.head _)).2
    have hlen : (owner.toList.filterMap id).length = k := by rw [h2.length_eq, List.length_range]
    obtain ⟨j, hj, e⟩ := exists_none (l := owner.toList) (by rw [hlen, Array.length_toList, h1]; simp at h3; omega)
    have hj' : j < owner.size := by simpa using hj
    have hg : owner.getD j (some 0) = none := by
      have : owner[j] = none := by simpa using e
      simp [Array.getD, hj', this]
    obtain ⟨j', hf, hg'⟩ := free_some (SetTable.turns mask) (SetTable.bits (near n) % (mask + 1)) (SetTable.bits (near n)) 0 j (full_bit (runs_all mask hm n) (by omega)) (by simp) hg
    have hjl : j' < owner.size := Classical.byContradiction fun hn => by simp [Array.getD, hn] at hg'
    have hje : owner.toList[j']'(by simpa using hjl) = none := by simpa [Array.getD, hjl] using hg'
    have hp : ((owner.setIfInBounds j' (some k)).toList.filterMap id).Perm (List.range (k + 1)) := by
      rw [Array.toList_setIfInBounds]
      refine (set_perm (by simpa using hjl) hje).trans ?_
      rw [List.range_succ]
      exact (h2.cons k).trans (List.perm_append_singleton k _).symm
    obtain ⟨o', q1, q2, q3⟩ := ih (owner.setIfInBounds j' (some k)) (k + 1) (by simpa using h1) hp (by simp at h3; omega) fun x hx => h4 x (.tail _ hx)
    refine ⟨o', ?_, q2, ?_⟩
    · rw [List.foldl_cons]
      have : laySt mask (some (owner, k)) (near n) = some (owner.setIfInBounds j' (some k), k + 1) := by
        show Option.bind (SetTable.layClean.free mask owner _ _ _) _ = _
        rw [hf]; rfl
      rw [this, q1, List.length_cons]
      congr 2; omega
    · rw [List.length_cons, show k + (r.length + 1) = k + 1 + r.length by omega]; exact q3

theorem relaid_some {t : SetTable} {es : Array Int} {wanted : Nat} (hm : SetTable.sizeAbove wanted - 1 ∈ [31, 127]) (hn : es.size ≤ SetTable.sizeAbove wanted - 1) (hh : ∀ h ∈ es.toList, -12 ≤ h ∧ h ≤ 12) :
    ∃ t' order, t.relaid es wanted = some (t', order) ∧ t'.mask = SetTable.sizeAbove wanted - 1 ∧ t'.plain = t.plain ∧ t'.place.size = es.size ∧ t'.dummies = #[] ∧ order.toList.Perm (List.range es.size) := by
  generalize hmask : SetTable.sizeAbove wanted - 1 = mask at hm hn
  obtain ⟨owner, h1, h2, h3⟩ := lay_fold hm es.toList (Array.replicate (mask + 1) none) 0 (by simp) (by simp) (by simpa using hn) hh
  have hc : SetTable.layClean mask es = some owner := by
    unfold SetTable.layClean
    rw [← Array.foldl_toList]
    show Option.map _ (es.toList.foldl (laySt mask) (some (Array.replicate (mask + 1) none, 0))) = _
    rw [h1]; rfl
  have e2 : ((List.range (mask + 1)).filterMap fun j => (owner.getD j none).map (j, ·)).map (·.2) = owner.toList.filterMap id := by
    rw [List.map_filterMap]
    have : (fun j => Option.map (fun x : Nat × Nat => x.2) (Option.map (fun k => (j, k)) (owner.getD j none))) = fun j => (owner.toList[j]?).bind id := by
      funext j
      rw [Option.map_map]
      by_cases hj : j < owner.size
      · simp [Array.getD, hj]
        cases owner[j] <;> rfl
      · simp [Array.getD, hj]
    rw [this, ← h2, ← Array.length_toList, ← List.filterMap_filterMap, List.filterMap_getElem?_range_length]
  rw [Nat.zero_add, Array.length_toList] at h3
  refine ⟨{ mask := mask, place := (((List.range (mask + 1)).filterMap fun j => (owner.getD j none).map (j, ·)).map (·.1)).toArray, dummies := #[], finger := t.finger, led := t.led, moves := t.movedTo mask, plain := t.plain }, (((List.range (mask + 1)).filterMap fun j => (owner.getD j none).map (j, ·)).map (·.2)).toArray, ?_, rfl, rfl, ?_, rfl, ?_⟩
  · unfold SetTable.relaid SetTable.laid
    rw [hmask, hc]; rfl
  · have := congrArg List.length e2
    rw [List.length_map, h3.length_eq, List.length_range] at this
    simpa using this
  · rw [e2]; exact h3
end Mine
end
section
open PySem PyProof.Rows
set_option maxRecDepth 100000
namespace Mine
-- SetR
/-- a table that never gave way -/
structure Fine (b : Bool) (n : Nat) (t : SetTable) : Prop where
  good : Good b t
  plain : t.plain = true
  mask : t.mask ∈ [7, 31, 127]
  size : t.place.size = n
theorem Fine.fits {b : Bool} {n : Nat} {t : SetTable} (f : Fine b n t) (h : n ≤ t.mask) : t.fits n = true := by
  unfold SetTable.fits SetTable.fill
  rw [f.size, f.good.clean]
  simpa using h
theorem freeSlot_no {t : SetTable} (hc : t.dummies = #[]) {h : Int} {j : Nat} {b : Bool} (e : t.freeSlot h = some (j, b)) : b = false := by
  unfold SetTable.freeSlot at e
  split at e
  · rename_i j' d hp
    obtain ⟨hd, _⟩ := probe_free hc _ _ (by rfl) hp
    subst hd
    cases e
    rfl
  · cases e
theorem layNew_fine {b : Bool} {n : Nat} {t : SetTable} (f : Fine b n t) (es : Array (Int × Value)) (hn : es.size = n) (hr : n * 5 < t.mask * 3) {h : Int} (h1 : -12 ≤ h) (h2 : h ≤ 12) (x : Value) :
    Fine b (n + 1) (layNew t es h x).2.1 ∧ (layNew t es h x).2.1.mask = t.mask ∧ (layNew t es h x).1.size = n + 1 ∧ (layNew t es h x).2.2.1 = false := by
  have hg := layNew_good f.good es h x
  have hp := (layNew_perm t es h x).length_eq
  obtain ⟨j, wd, hf⟩ := freeSlot_some f.good.clean f.good.rise f.mask (by rw [f.size]; omega) h1 h2
  have hsz : (layNew t es h x).1.size = n + 1 := by rw [← Array.length_toList, hp]; simp [hn]
  have e : (layNew t es h x).2.1 = (t.put j).1 := by
    have hs : (SetTable.insertAt es (t.put j).2 (h, x)).size = n + 1 := by
      have := (SetTable.insertAt_perm es (t.put j).2 (h, x)).length_eq
      simpa [hn] using this
    have hfit : (t.put j).1.fits (SetTable.insertAt es (t.put j).2 (h, x)).size = true := by
      rw [hs]
      have h5 : (SetTable.insertAt t.place (SetTable.below t.place j) j).size = n + 1 := by
        have := (SetTable.insertAt_perm t.place (SetTable.below t.place j) j).length_eq
        simpa [f.size] using this
      have h6 : (t.put j).1.dummies = #[] := by
        show (if SetTable.has t.dummies j then _ else t.dummies) = #[]
        rw [f.good.clean, has_none]; rfl
      unfold SetTable.fits SetTable.fill
      rw [h6]
      have h7 : (t.put j).1.place.size = n + 1 := h5
      rw [h7]
      have h8 : (t.put j).1.mask = t.mask := rfl
      rw [h8]
      simp; omega
    unfold layNew
    rw [hf]
    dsimp only
    unfold SetTable.orStandIn
    rw [if_pos hfit]
  refine ⟨⟨hg, ?_, ?_, ?_⟩, ?_, hsz, by unfold layNew; rw [hf]; exact freeSlot_no f.good.clean hf⟩
  · rw [e]; exact f.plain
  · rw [e]; exact f.mask
  · rw [e]
    have := (SetTable.insertAt_perm t.place (SetTable.below t.place j) j).length_eq
    show (SetTable.insertAt t.place (SetTable.below t.place j) j).size = n + 1
    simpa [f.size] using this
  · rw [e]; rfl
theorem relay_fine {b : Bool} {n : Nat} {t : SetTable} (f : Fine b n t) (es : Array (Int × Value)) (hn : es.size = n) (hh : ∀ e ∈ es.toList, -12 ≤ e.1 ∧ e.1 ≤ 12) (hm : SetTable.sizeAbove (SetTable.grown n) - 1 ∈ [31, 127]) (hle : n ≤ SetTable.sizeAbove (SetTable.grown n) - 1) :
    Fine b n (relayAll t es (SetTable.grown es.size)).2.1 ∧ (relayAll t es (SetTable.grown es.size)).2.1.mask = SetTable.sizeAbove (SetTable.grown n) - 1 := by
  have hg := relayAll_good f.good es (SetTable.grown es.size)
  have hpe := relayAll_perm t es (SetTable.grown es.size)
  obtain ⟨t', order, hr, q1, q2, q3, q4, q5⟩ := relaid_some (t := t) (es := es.map (·.1)) (wanted := SetTable.grown es.size) (by rw [hn]; exact hm) (by rw [hn]; simpa [hn] using hle) (fun h hh' => by
    rw [Array.toList_map] at hh'
    obtain ⟨e, he, rfl⟩ := List.mem_map.mp hh'
    exact hh e he)
  rw [Array.size_map] at q3 q5
  have hc : coversAll order es.size = true := by unfold coversAll; exact List.isPerm_iff.mpr q5
  have hos : (order.filterMap (es[·]?)).size = es.size := by
    have := (q5.filterMap (es[·]?)).length_eq
    rw [filterMap_getElem?_range] at this
    rw [← Array.length_toList, Array.toList_filterMap, this, Array.length_toList]
  have hfit : t'.fits (order.filterMap (es[·]?)).size = true := by
    rw [hos]
    unfold SetTable.fits SetTable.fill
    rw [q4, q3, q1, hn]
    simpa using hle
  have e : (relayAll t es (SetTable.grown es.size)).2.1 = t' := by
    unfold relayAll
    rw [hr]
    dsimp only
    rw [hc, hfit]
    rfl
  refine ⟨⟨hg, ?_, ?_, ?_⟩, ?_⟩
  · rw [e, q2]; exact f.plain
  · rw [e, q1, hn]; exact List.mem_cons_of_mem _ hm
  · rw [e, q3, hn]
  · rw [e, q1, hn]
theorem full_cases {n m : Nat} (hm : m ∈ [7, 31, 127]) (hr : n * 5 < m * 3) (hn : n ≤ 40) (hf : (n + 1) * 5 ≥ m * 3) : (m = 7 ∧ n = 4) ∨ (m = 31 ∧ n = 18) := by
  simp only [List.mem_cons, List.not_mem_nil, or_false] at hm
  omega
theorem grown_cases {n m : Nat} (hm : m ∈ [7, 31, 127]) (hr : n * 5 < m * 3) (hn : n ≤ 40) (hf : (n + 1) * 5 ≥ m * 3) :
    SetTable.sizeAbove (SetTable.grown (n + 1)) - 1 ∈ [31, 127] ∧ n + 1 ≤ SetTable.sizeAbove (SetTable.grown (n + 1)) - 1 ∧ (n + 1) * 5 < (SetTable.sizeAbove (SetTable.grown (n + 1)) - 1) * 3 := by
  rcases full_cases hm hr hn hf with ⟨_, rfl⟩ | ⟨_, rfl⟩ <;> decide
theorem tooFull_iff {b : Bool} {n : Nat} {t : SetTable} (f : Fine b n t) : t.tooFull = decide (n * 5 ≥ t.mask * 3) := by
  unfold SetTable.tooFull SetTable.fill
  rw [f.size, f.good.clean]
  rfl
end Mine
end
section
open PySem PyProof.Rows PySem.Spec
set_option maxRecDepth 100000
namespace Mine
-- SetB
def valOf : Value → Int
  | .int k _ => k
  | _ => 0
theorem int_of_is {prog : Program} {w : World} {k : Int} {v : Value} (h : (intKind prog w).is k v = true) : ∃ t, v = .int k t := Value.isInt_shape h
theorem is_int {prog : Program} {w : World} {k k' : Int} {t : Tok} : (intKind prog w).is k (.int k' t) = decide (k' = k) := by
  show Value.isInt k (.int k' t) = _
  by_cases h : k' = k <;> simp [Value.isInt, h]

section
variable {prog : Program} {w : World}
/-- a set of ints, what it holds, and its table -/
def IsSetX (prog : Program) (w : World) (h : Heap) (a : Addr) (S : List Int) : Prop :=
  ∃ o es ep t, h.get? a = some o ∧ o.ExactSet ∧ o.data = .set es ep t ∧ ElemsOf (intKind prog w) es.toList ∧ (es.toList.map fun e => valOf e.2).Perm S ∧ (∀ k ∈ S, -12 ≤ k ∧ k ≤ 12) ∧ Fine (!w.params.followText "set-order") es.size t ∧ es.size * 5 < t.mask * 3
theorem IsSetX.size {S : List Int} {es : Array (Int × Value)} (hp : (es.toList.map fun e => valOf e.2).Perm S) : es.size = S.length := by
  have := hp.length_eq; simpa using this
theorem IsSetX.at {h h' : Heap} {a : Addr} {S : List Int} (x : IsSetX prog w h a S) (e : ∀ o, h.get? a = some o → h'.get? a = some o) : IsSetX prog w h' a S :=
  let ⟨o, es, ep, t, ho, r⟩ := x; ⟨o, es, ep, t, e o ho, r⟩

theorem store_set {h : Heap} {a : Addr} {o : Obj} {es es' : Array (Int × Value)} {ep : Nat} {t t' : SetTable} (ho : h.get? a = some o) (hd : o.data = .set es ep t) :
    (h.update a (Obj.putSet es' t')).get? a = some { o with data := .set es' (ep + 1) t' } := by
  have := Heap.get?_update_self (Obj.putSet es' t') ho (by rw [putSet_of es' t' hd]; rfl)
  rw [putSet_of es' t' hd] at this
  exact this

variable {A : Around} {E : Value → Shared → Prop} {s : Shared}
theorem hash_bd {k : Int} (h1 : -12 ≤ k) (h2 : k ≤ 12) : -12 ≤ hashInt k ∧ hashInt k ≤ 12 := by
  obtain ⟨n, rfl⟩ := near_of h1 h2
  exact hash_near n
theorem addX {a : Addr} {S : List Int} {k : Int} {tk : Tok} {Q : Bool → Shared → Prop} (hS : IsSetX prog w s.heap a S) (hroom : S.length ≤ 40) (hk1 : -12 ≤ k) (hk2 : k ≤ 12)
    (h : ∀ h' r, Heap.SameBut a s.heap h' → IsSetX prog w h' a (step_dedup S k) → Q r { s with heap := h' }) :
    wpAny (model prog w) A (setAddHashed a (.int k tk) ((intKind prog w).hash k)) Q E s := by
  obtain ⟨o, es, ep, t, ho, hex, hd, hel, hS, hnear, hfine, hroomt⟩ := hS
  have hsz := IsSetX.size hS
  have hb : es.size < scanBound := by unfold scanBound; omega
  have hf : t.fits es.size = true := hfine.fits (by omega)
  have hkey : (intKind prog w).is k (.int k tk) = true := by rw [is_int]; simp
  have hmem : k ∈ S ↔ ∃ e ∈ es.toList, (intKind prog w).is k e.2 = true := by
    rw [← hS.mem_iff, List.mem_map]
    constructor
    · rintro ⟨e, he, hv⟩
      obtain ⟨⟨k', hk', _⟩, _⟩ := hel e he
      obtain ⟨t', ht'⟩ := int_of_is hk'
      refine ⟨e, he, ?_⟩
      rw [ht'] at hv ⊢
      rw [is_int]; simpa [valOf] using hv
    · rintro ⟨e, he, hv⟩
      obtain ⟨t', ht'⟩ := int_of_is hv
      exact ⟨e, he, by rw [ht']; rfl⟩
  unfold setAddHashed setAddHashedIn
  refine wpAny_holding (wpAny_bind (wpAny_setState_of ho hd hf ?_))
  dsimp only
  rw [byScan_of (knd := intKind prog w) (x := .int k tk) rfl hb hel]
  simp only [↓reduceIte]
  unfold setAddByScan
  refine wpAny_bind (wpAny_bind (wpAny_rule (wpAny_bind (wpAny_setScan_of hkey ho hd hf hel ?_))))
  cases hr : List.findIdx? (fun e => (intKind prog w).is k e.2) es.toList with
  | some j =>
    dsimp only
    obtain ⟨hj, hpj, _⟩ := List.findIdx?_eq_some_iff_getElem.mp hr
    have hkS : k ∈ S := hmem.mpr ⟨_, List.getElem_mem hj, hpj⟩
    have hst : step_dedup S k = S := by unfold step_dedup; rw [if_pos (by simpa using hkS)]
    refine wpAny_pure (wpAny_pure ?_)
    have := h s.heap false (Heap.SameBut.refl a s.heap) (by rw [hst]; exact ⟨o, es, ep, t, ho, hex, hd, hel, hS, hnear, hfine, hroomt⟩)
    exact this
  | none =>
    dsimp only
    have hkS : k ∉ S := fun hk => by
      obtain ⟨e, he, hp⟩ := hmem.mp hk
      have := List.findIdx?_eq_none_iff.mp hr e he
      rw [hp] at this; cases this
    have hst : step_dedup S k = S ++ [k] := by unfold step_dedup; rw [if_neg (by simpa using hkS)]
    rw [hst] at h
    have hnear1 : ∀ x ∈ S ++ [k], -12 ≤ x ∧ x ≤ 12 := fun x hx => by
      rcases List.mem_append.mp hx with hx | hx
      · exact hnear x hx
      · rw [List.mem_singleton.mp hx]; exact ⟨hk1, hk2⟩
    have hhk := hash_bd hk1 hk2
    have hperm := layNew_perm t es ((intKind prog w).hash k) (.int k tk)
    obtain ⟨hfine1, hmask1, hsz1, hwd⟩ := layNew_fine hfine es rfl hroomt hhk.1 hhk.2 (.int k tk)
    change Fine _ _ (layNew t es ((intKind prog w).hash k) (.int k tk)).2.1 at hfine1
    change (layNew t es ((intKind prog w).hash k) (.int k tk)).2.1.mask = _ at hmask1
    change (layNew t es ((intKind prog w).hash k) (.int k tk)).1.size = _ at hsz1
    change (layNew t es ((intKind prog w).hash k) (.int k tk)).2.2.1 = _ at hwd
    generalize layNew t es ((intKind prog w).hash k) (.int k tk) = lay at hperm hfine1 hmask1 hsz1 hwd ⊢
    obtain ⟨es1, t1, wasDummy, gave⟩ := lay
    dsimp only at hperm hfine1 hmask1 hsz1 hwd ⊢
    subst hwd
    rw [Array.toList_push] at hperm
    have hel1 : ElemsOf (intKind prog w) es1.toList := (hel.push hkey rfl).perm hperm
    have hS1 : (es1.toList.map fun e => valOf e.2).Perm (S ++ [k]) := by
      refine (hperm.map _).trans ?_
      rw [List.map_append]
      exact hS.append_right _
    have hb1 : es1.size < scanBound := by unfold scanBound; omega
    have hes1 : ∀ e ∈ es1.toList, -12 ≤ e.1 ∧ e.1 ≤ 12 := fun e he => by
      obtain ⟨⟨k', hk', hh'⟩, _⟩ := hel1 e he
      obtain ⟨t', ht'⟩ := int_of_is hk'
      have hx : k' ∈ S ++ [k] := hS1.mem_iff.mp (List.mem_map.mpr ⟨e, he, by rw [ht']; rfl⟩)
      rw [hh']
      exact hash_bd (hnear1 k' hx).1 (hnear1 k' hx).2
    have gw : ∀ (b : Bool) {s₁ : Shared} {Q' : Unit → Shared → Prop}, Q' () s₁ → wpAny (model prog w) A (match b with | true => rule "set.scan.the-table-gave-way" | false => pure ()) Q' E s₁ :=
      fun b s₁ Q' hq => by cases b <;> first | exact wpAny_pure hq | exact wpAny_rule hq
    refine wpAny_bind (gw _ ?_)
    have hpl : t1.plain = true := hfine1.plain
    rw [if_pos hpl]
    refine wpAny_bind ?_
    rw [hashByValue_scannable 8 rfl]
    refine wpAny_pure ?_
    rw [show plainKind (Value.int k tk) = true from rfl]
    simp only [↓reduceIte]
    refine wpAny_bind (wpAny_storeSet_of ho hd ?_ (fits_of_scanBound hb1))
    have ho1 := store_set (es' := es1) (t' := t1) ho hd
    have sb1 := Heap.SameBut.update s.heap a (Obj.putSet es1 t1)
    split
    · rename_i hfull
      have hfull' : t1.tooFull = true := by simpa using hfull
      rw [tooFull_iff hfine1, decide_eq_true_eq, hmask1] at hfull'
      obtain ⟨g1, g2, g3⟩ := grown_cases hfine.mask hroomt (by omega) hfull'
      have hp := relayAll_perm t1 es1 (SetTable.grown es1.size)
      obtain ⟨hfine2, hmask2⟩ := relay_fine hfine1 es1 hsz1 hes1 g1 g2
      generalize relayAll t1 es1 (SetTable.grown es1.size) = R at hp hfine2 hmask2 ⊢
      obtain ⟨es2, t3, gave2⟩ := R
      dsimp only at hp hfine2 hmask2 ⊢
      have hS2 : (es2.toList.map fun e => valOf e.2).Perm (S ++ [k]) := (hp.map _).trans hS1
      have hsz2 : es2.size = es.size + 1 := by have := hS2.length_eq; simp at this; omega
      refine wpAny_bind (gw _ ?_)
      refine wpAny_bind (wpAny_storeSet_of ho1 rfl ?_ (fits_of_scanBound (by unfold scanBound; omega)))
      have ho2 := store_set (es' := es2) (t' := t3) ho1 rfl
      exact wpAny_pure (wpAny_pure (h _ true (sb1.trans (Heap.SameBut.update _ a _)) ⟨_, es2, _, t3, ho2, hex, rfl, hel1.perm hp, hS2, hnear1, by rw [hsz2]; exact hfine2, by rw [hmask2, hsz2]; exact g3⟩))
    · rename_i hfull
      have hfull' : t1.tooFull = false := by simpa using hfull
      rw [tooFull_iff hfine1, decide_eq_false_iff_not, hmask1] at hfull'
      exact wpAny_pure (wpAny_pure (h _ true sb1 ⟨_, es1, _, t1, ho1, hex, rfl, hel1, hS1, hnear1, by rw [hsz1]; exact hfine1, by rw [hmask1, hsz1]; omega⟩))
end
end Mine
end
section
open PySem PyProof.Rows PySem.Spec
set_option maxRecDepth 100000
namespace Mine
-- SetC
theorem dedup_le : ∀ (ns S : List Int), (ns.foldl step_dedup S).length ≤ S.length + ns.length := by
  intro ns
  induction ns with
  | nil => intro S; simp
  | cons n r ih =>
    intro S
    rw [List.foldl_cons]
    refine Nat.le_trans (ih _) ?_
    have : (step_dedup S n).length ≤ S.length + 1 := by unfold step_dedup; split <;> simp
    simp only [List.length_cons]; omega
theorem nodup_le (a : Int) : ∀ (n : Nat) (l : List Int), l.Nodup → (∀ x ∈ l, a ≤ x ∧ x < a + (n : Int)) → l.length ≤ n
  | 0, l, _, h => by
    cases l with
    | nil => simp
    | cons x r => have := h x (.head _); omega
  | n + 1, l, hn, h => by
    by_cases hm : a + (n : Int) ∈ l
    · have := nodup_le a n (l.erase (a + (n : Int))) (hn.erase _) fun x hx => by
        obtain ⟨h1, h2⟩ := (hn.mem_erase_iff).mp hx
        have := h x h2
        omega
      rw [List.length_erase_of_mem hm] at this
      omega
    · have := nodup_le a n l hn fun x hx => by
        have h1 := h x hx
        have h2 : x ≠ a + (n : Int) := fun e => hm (e ▸ hx)
        omega
      omega
theorem dedup_nodup : ∀ (ns S : List Int), S.Nodup → (ns.foldl step_dedup S).Nodup := by
  intro ns
  induction ns with
  | nil => intro S h; exact h
  | cons n r ih =>
    intro S h
    rw [List.foldl_cons]
    refine ih _ ?_
    unfold step_dedup
    split
    · exact h
    · rename_i hn
      refine List.nodup_append.mpr ⟨h, by simp, fun a ha b hb e => hn ?_⟩
      rw [List.mem_singleton.mp hb] at e
      subst e
      simpa using ha
theorem dedup_mem : ∀ (ns S : List Int) (x : Int), x ∈ ns.foldl step_dedup S ↔ x ∈ S ∨ x ∈ ns := by
  intro ns
  induction ns with
  | nil => intro S x; simp
  | cons n r ih =>
    intro S x
    rw [List.foldl_cons, ih]
    have : x ∈ step_dedup S n ↔ x ∈ S ∨ x = n := by
      unfold step_dedup
      split
      · rename_i hn
        have hn' : n ∈ S := by simpa using hn
        exact ⟨.inl, fun h => h.elim id fun e => e ▸ hn'⟩
      · simp
    rw [this, List.mem_cons, or_assoc]
theorem dedup_short {ns : List Int} (h : ∀ x ∈ ns, -12 ≤ x ∧ x ≤ 12) : (ns.foldl step_dedup []).length ≤ 25 :=
  nodup_le (-12) 25 _ (dedup_nodup ns [] List.nodup_nil) fun x hx => by
    have := h x (((dedup_mem ns [] x).mp hx).elim (fun h => nomatch h) id)
    omega
section
variable {prog : Program} {w : World} {A : Around}
theorem addLoopX {R : Result → Shared → Prop} {I : Addr} {fp wr : List Addr} {G : Array GenState → Array GenState → Prop} {P : Nat → Value → Prop} {St : Nat → Shared → Prop} {ns : List Int} (W : WalksS prog w A.in1 I fp wr G ns.length P St) (S : Addr) (hSf : S ∉ fp)
    (hval : ∀ (i : Nat) v, P i v → ∃ k t, ns[i]? = some k ∧ v = .int k t) (hb : ∀ x ∈ ns, -12 ≤ x ∧ x ≤ 12) :
    ∀ (k i : Nat) (s : Shared), ns.length - i = k → i ≤ ns.length → St i s → IsSetX prog w s.heap S ((ns.take i).foldl step_dedup []) →
      (∀ s', Moved (S :: wr) G s s' → IsSetX prog w s'.heap S (ns.foldl step_dedup []) → R (.ok (.ret .none)) s') →
      codeAny (model prog w) A (.builtin "set.update.loop" ⟨[.ref S, .ref I], []⟩) R s := by
  have hSw : S ∉ wr := fun h => hSf (W.sub _ h)
  have up : ∀ b ∈ wr, b ∈ S :: wr := fun b hb => List.mem_cons_of_mem _ hb
  intro k
  induction k with
  | zero =>
    intro i s hk hi hst hS hR
    obtain rfl : i = ns.length := by omega
    rw [List.take_length] at hS
    refine codeAny_builtin F.entry_set_update_loop ?_
    rw [Around.under_plainId F.plain_set_update_loop _]
    show wpAny _ A.in1 (pyNext (.ref I) >>= _) _ _ s
    refine wpAny_bind (W.done s _ _ hst fun s' hm => ?_)
    show wpAny _ A.in1 (ret Value.none) _ _ s'
    exact wpAny_pure (hR s' (hm.mono up) (hS.at fun o ho => hm.heap S _ hSw ho))
  | succ k ih =>
    intro i s hk hi hst hS hR
    have hlt : i < ns.length := by omega
    refine codeAny_builtin F.entry_set_update_loop ?_
    rw [Around.under_plainId F.plain_set_update_loop _]
    show wpAny _ A.in1 (pyNext (.ref I) >>= _) _ _ s
    refine wpAny_bind (W.item i s _ _ hlt hst fun v s' hP hst' hm => ?_)
    obtain ⟨x, t, hx, rfl⟩ := hval i v hP
    have hS' := hS.at (h' := s'.heap) fun o ho => hm.heap S _ hSw ho
    show wpAny _ A.in1 (holding [Value.int x t] (setAdd S (.int x t)) >>= _) _ _ s'
    refine wpAny_bind (wpAny_holding ?_)
    unfold setAdd
    refine wpAny_holding (wpAny_bind ((intKind prog w).pyHash (k := x) (by rw [is_int]; simp) ?_))
    have hle := dedup_short (ns := ns.take i) fun x hx => hb x (List.mem_of_mem_take hx)
    have hxb := hb x (List.mem_of_getElem? hx)
    refine addX (s := { s' with toks := s'.toks + 1 }) hS' (by omega) hxb.1 hxb.2 fun h' r sb hS2 => ?_
    have hS3 : IsSetX prog w h' S ((ns.take (i + 1)).foldl step_dedup []) := by
      rw [List.take_add_one, hx, List.foldl_append]
      exact hS2
    refine wpAny_pure ⟨plainId_quiet F.plain_set_update_loop _, ih (i + 1) _ (by omega) hlt (W.frame _ s' _ _ hst' (Nat.le_succ _) fun b hb o e => ?_) hS3 fun s'' hm'' hS'' => ?_⟩
    · rw [sb.2 b (fun h : b = S => hSf (by rw [← h]; exact hb))]; exact e
    · refine hR s'' (Moved.trans W.gtrans ((hm.mono up).then_heap (Nat.le_succ _) fun b o hb e => ?_) hm'') hS''
      rw [sb.2 b (fun h : b = S => hb (by rw [h]; exact List.mem_cons_self))]; exact e
end

section
variable {prog : Program} {w : World} {A : Around} {E : Value → Shared → Prop} {s : Shared}
abbrev newSetO (w : World) : Obj := { cls := .type "set", dict := none, data := .set #[] 0 (.fresh 0 0 (!w.params.followText "set-order")) }
theorem newSet_code (a : Value) {Q₁ : Value → Shared → Prop}
    (h : Q₁ (.ref s.heap.objs.size) { s with heap := s.heap.push (newSetO w) }) :
    codeAny (model prog w) A (.call (.builtin "set.__new__") ⟨[.type "set", a], []⟩) (wants Q₁ E) s := by
  refine codeAny_of_tree ?_
  show wpAny _ A.in1 (do checkBuiltinCall "set.__new__" ⟨[.type "set", a], []⟩; again (.builtin "set.__new__" ⟨[.type "set", a], []⟩)) _ _ s
  refine wpAny_bind (wpAny_of_eq (F.newCall_set_1 a) (wpAny_pure ⟨plainId_quiet F.plain_set_new _, codeAny_builtin F.entry_set_new ?_⟩))
  rw [Around.under_plainId F.plain_set_new _]
  unfold Builtin.«set.__new__» Builtin.Frozenset.newClass
  have hsub := sub_set_self
  obtain ⟨hp, g, d, tk, os⟩ := s
  dsimp only
  wp_walk
  refine wpAny_askSetting (wpAny_pure ?_)
  dsimp only
  simp only [newObj]
  refine wpAny_bind (wpAny_alloc (wpAny_pure ?_))
  exact wpAny_pure h

theorem fresh_set {h : Heap} : IsSetX prog w (h.push (newSetO w)) h.objs.size [] :=
  ⟨_, #[], 0, _, Heap.get?_push_size _ rfl, ⟨rfl, rfl, rfl⟩, rfl, fun e he => by simp at he, by simp, (fun k hk => nomatch hk), ⟨⟨rfl, by simp [SetTable.fresh], rfl⟩, rfl, (List.Mem.head _ : 7 ∈ [7, 31, 127]), rfl⟩, (by decide : 0 * 5 < 7 * 3)⟩

set_option maxHeartbeats 3200000 in
theorem set_of_list {l : Addr} {vs : List Value} {ns : List Int} {Q : Value → Shared → Prop}
    (hh : A.handled = none) (hl : s.heap.IsList l vs.toArray) (hi : IntsAre vs ns) (hb : ∀ x ∈ ns, -12 ≤ x ∧ x ≤ 12)
    (h : ∀ (h' : Heap) (tk : Nat), IsSetX prog w h' s.heap.objs.size (ns.foldl step_dedup []) → (∀ b o, b < s.heap.objs.size → s.heap.get? b = some o → h'.get? b = some o) → Q (.ref s.heap.objs.size) { s with heap := h', toks := tk }) :
    wpAny (model prog w) A (call (.type "set") [.ref l]) Q E s := by
  obtain ⟨c, tl, hmro⟩ := F.called_set.mro
  have hmade := F.called_set.made
  have hsub := F.called_set.sub
  refine wpAny_call (codeAny_of_tree ?_)
  show wpAny _ _ (callAny (.type "set") _) _ _ _
  refine wpAny_pure ⟨Code.quiet_builtin _ (by decide +kernel), codeAny_builtin F.entry_type_call ?_⟩
  rw [Around.under_plain (weight_type_call_type "set" [.ref l] []) rfl]
  have h1 := F.called_set.notType
  have h2 := F.called_set.canCreate
  have hct := F.typeCall_set_1 (.ref l)
  repeat (any_goals (first | assumption | wp_step))
  refine codeAny_mono (newSet_code (.ref l) (E := E) (Q₁ := fun obj s₁ => obj = .ref s.heap.objs.size ∧ s₁ = { s with heap := s.heap.push (newSetO w) }) ⟨rfl, rfl⟩) fun r s₁ hr => ?_
  cases r with
  | error e => exact hr
  | ok fl =>
    cases fl with
    | ret obj =>
      obtain ⟨rfl, rfl⟩ := hr
      have hS : (s.heap.push (newSetO w)).get? s.heap.objs.size = some (newSetO w) := Heap.get?_push_size _ rfl
      have hT : Shared.TypeIs { s with heap := s.heap.push (newSetO w) } (.ref s.heap.objs.size) "set" := ⟨_, hS, rfl⟩
      have hli := F.called_set.init.lookup
      have hbi := F.called_set.init.bind (.ref s.heap.objs.size)
      repeat (any_goals (first | assumption | wp_step))
      refine codeAny_mono (codeAny_call_builtin (R := wants (fun r s₂ => r = .none ∧ ∃ h' tk, s₂ = { s with heap := h', toks := tk } ∧
          IsSetX prog w h' s.heap.objs.size (ns.foldl step_dedup []) ∧ (∀ b o, b < s.heap.objs.size → s.heap.get? b = some o → h'.get? b = some o)) E) F.called_set.init.plain F.entry_set_init (check_set_init_1 hT ?_)) fun r₂ s₂ hr₂ => ?_
      · obtain ⟨ol, hol, hcl, nl, hdl⟩ := hl
        obtain ⟨ocls, odict, odata, oslots⟩ := ol
        simp only at hcl hdl
        subst hcl; subst hdl
        have hol' : (s.heap.push (newSetO w)).get? l = some { cls := .type "list", dict := odict, data := .seq vs.toArray nl, slots := oslots } := Heap.get?_push_of_some _ hol
        have hsls := F.sub_list_set
        have hslf := F.sub_list_frozenset
        have hne : (Value.type "list" == Value.type "dict") = false := by decide
        have hl1 : (s.heap.push (newSetO w)).IsList l vs.toArray := ⟨_, hol', rfl, nl, rfl⟩
        unfold Builtin.«set.__init__» noKeywords Builtin.Frozenset.updateFrom
        generalize hPI : pyIter = PI
        wp_walk
        subst hPI
        refine wpAny_pyIter_list hl1 ?_
        refine wpAny_bind (wpAny_runValue ?_)
        have hlS : l < s.heap.objs.size := Heap.lt_size hol
        have hneI : l ≠ (s.heap.push (newSetO w)).objs.size := by
          rw [Heap.size_push]; exact Nat.ne_of_lt (Nat.lt_succ_of_lt hlS)
        have hSf : s.heap.objs.size ∉ [(s.heap.push (newSetO w)).objs.size, l] := by
          rw [Heap.size_push]; simp only [List.mem_cons, List.not_mem_nil, or_false, not_or]
          exact ⟨Nat.ne_of_lt (Nat.lt_succ_self _), Nat.ne_of_gt hlS⟩
        have hlen : vs.toArray.size = ns.length := by rw [List.size_toArray]; exact hi.length
        have W := (Walks.list (prog := prog) (w := w) (A := A.in1.in1.in1) (by simp [hh]) _ l hneI vs.toArray).toS
        rw [hlen] at W
        refine addLoopX (ns := ns) W s.heap.objs.size hSf (fun i v hv => ?_) hb (ns.length - 0) 0 _ (by omega) (Nat.zero_le _) ⟨⟨_, Heap.get?_push_size _ rfl, rfl, rfl⟩, hl1.push _⟩ ?_ ?_
        · obtain ⟨k, t, e, hk⟩ := IntsAre.at hi i v (by simpa using hv)
          exact ⟨k, t, hk, e⟩
        · exact (fresh_set (prog := prog) (w := w) (h := s.heap)).at fun o ho => Heap.get?_push_of_some _ ho
        · intro s' hm hS'
          obtain ⟨h', g', d', tk', os'⟩ := s'
          have eg : g' = s.gens := hm.gens
          have ed : d' = s.drawn := hm.drawn
          have eo : os' = s.os := hm.os
          subst eg; subst ed; subst eo
          show wpAny _ _ _ _ _ _
          refine wpAny_pure ?_
          show wpAny _ _ (ret Value.none) _ _ _
          refine wpAny_pure ⟨rfl, h', tk', rfl, hS', fun b o hb e => ?_⟩
          have hb2 : b ≠ (s.heap.push (newSetO w)).objs.size := by
            rw [Heap.size_push]; exact Nat.ne_of_lt (Nat.lt_succ_of_lt hb)
          exact hm.heap b o (by simp only [List.mem_cons, List.not_mem_nil, or_false, not_or]; exact ⟨Nat.ne_of_lt hb, hb2⟩) (Heap.get?_push_of_some _ (Heap.get?_push_of_some _ e))
      · cases r₂ with
        | error e => exact hr₂
        | ok fl₂ =>
          cases fl₂ with
          | ret r =>
            obtain ⟨rfl, h', tk, rfl, hS', hk'⟩ := hr₂
            repeat (any_goals (first | assumption | wp_step))
            exact h _ _ hS' hk'
          | _ => exact hr₂.elim
    | _ => exact hr.elim
end
end Mine
end
section
open PySem PyProof.Rows PySem.Spec
set_option maxRecDepth 100000
namespace Mine
-- SetD
theorem slot_si_next : Slot "set_iterator" "__next__" "set_iterator.__next__" :=
  .of (owner := "set_iterator") (n := "__next__") (by rw [typeLookup_type, builtinLookup_eq_fast]; kernel_rfl) (by decide +kernel) (by decide +kernel) (by decide +kernel)
    (by first | exact .inl (by decide +kernel) | exact .inr (by decide +kernel)) (by rw [isSubtype_type]; kernel_rfl)
theorem slot_si_iter : Slot "set_iterator" "__iter__" "set_iterator.__iter__" :=
  .of (owner := "set_iterator") (n := "__iter__") (by rw [typeLookup_type, builtinLookup_eq_fast]; kernel_rfl) (by decide +kernel) (by decide +kernel) (by decide +kernel)
    (by first | exact .inl (by decide +kernel) | exact .inr (by decide +kernel)) (by rw [isSubtype_type]; kernel_rfl)
theorem entry_si_next : entryFor table "set_iterator.__next__" = some Builtin.«set_iterator.__next__» := entryFor_of_tree (by kernel_rfl)
theorem entry_si_iter : entryFor table "set_iterator.__iter__" = some Builtin.«dict_keyiterator.__iter__» :=
  entryFor_alias (id' := "dict_keyiterator.__iter__") (by kernel_rfl) rfl (by decide +kernel) (by kernel_rfl)
theorem entry_set_iter : entryFor table "set.__iter__" = some Builtin.«frozenset.__iter__» :=
  entryFor_alias (id' := "frozenset.__iter__") (by kernel_rfl) rfl (by decide +kernel) (by kernel_rfl)
theorem args_si_next (a : Value) : argsOk "set_iterator.__next__" ⟨[a], []⟩ := by unfold argsOk; kernel_rfl
theorem args_si_iter (a : Value) : argsOk "set_iterator.__iter__" ⟨[a], []⟩ := by unfold argsOk; kernel_rfl

theorem erase_perm {α : Type} : ∀ {l : List α} {i : Nat} (hi : i < l.length), (l[i] :: l.eraseIdx i).Perm l
  | a :: r, 0, _ => .rfl
  | a :: r, i + 1, hi => by
    have hi' : i < r.length := by simpa using hi
    have := erase_perm (l := r) hi'
    exact (List.Perm.swap a (r[i]'hi') (r.eraseIdx i)).trans (this.cons a)
theorem pick_go {α : Type} (next : Nat → Nat) : ∀ (fuel k : Nat) (left : List α) (out : Array α), left.length ≤ fuel → (pickOrder.go next fuel k left out).toList.Perm (out.toList ++ left) := by
  intro fuel
  induction fuel with
  | zero =>
    intro k left out h
    have : left = [] := List.length_eq_zero_iff.mp (Nat.le_zero.mp h)
    subst this
    unfold pickOrder.go; simp
  | succ fuel ih =>
    intro k left out h
    unfold pickOrder.go
    by_cases hl : 0 < left.length
    · have hi : next k % left.length < left.length := Nat.mod_lt _ hl
      rw [List.getElem?_eq_getElem hi]
      dsimp only
      refine (ih _ _ _ (by rw [List.length_eraseIdx_of_lt hi]; omega)).trans ?_
      rw [Array.toList_push, List.append_assoc]
      exact (erase_perm hi).append_left _
    · have : left = [] := List.length_eq_zero_iff.mp (by omega)
      subst this
      simp
theorem pick_perm {α : Type} (next : Nat → Nat) (xs : Array α) : (pickOrder next xs).toList.Perm xs.toList := by
  have := pick_go next xs.size 0 xs.toList #[] (by simp)
  simpa [pickOrder] using this

/-- the order in which a set's things come -/
def sqOf (P : Params) (sa ep : Nat) (es : Array (Int × Value)) : Array (Int × Value) := if P.followText "set-order" = true then pickOrder (P.setOrder sa ep) es else es
def slotOf (P : Params) (t : SetTable) (i : Nat) : Nat := if P.followText "set-order" = true then 0 else match i with | 0 => 0 | k + 1 => t.place.getD k 0 + 1
theorem sqOf_perm (P : Params) (sa ep : Nat) (es : Array (Int × Value)) : (sqOf P sa ep es).toList.Perm es.toList := by
  unfold sqOf; split
  · exact pick_perm _ _
  · exact .rfl

section
variable {prog : Program} {w : World} {A : Around} {E : Value → Shared → Prop} {s : Shared}
def IsSI (h : Heap) (I sa i n ep slot : Nat) : Prop := ∃ o, h.get? I = some o ∧ o.cls = .type "set_iterator" ∧ o.data = .fields #[.int slot 0, .int i 0, .ref sa, .int n 0, .int ep 0]
theorem IsSI.typeIs {I sa i n ep slot : Nat} (x : IsSI s.heap I sa i n ep slot) : s.TypeIs (.ref I) "set_iterator" := let ⟨o, ho, hc, _⟩ := x; ⟨o, ho, hc⟩
theorem IsSI.at {h h' : Heap} {I sa i n ep slot : Nat} (x : IsSI h I sa i n ep slot) (e : ∀ o, h.get? I = some o → h'.get? I = some o) : IsSI h' I sa i n ep slot := let ⟨o, ho, r⟩ := x; ⟨o, e _ ho, r⟩
/-- the set as it stands -/
def SetAt (w : World) (h : Heap) (sa : Nat) (es : Array (Int × Value)) (ep : Nat) (t : SetTable) : Prop :=
  ∃ o, h.get? sa = some o ∧ o.ExactSet ∧ o.data = .set es ep t ∧ Fine (!w.params.followText "set-order") es.size t ∧ es.size * 5 < t.mask * 3
theorem SetAt.at {h h' : Heap} {sa : Nat} {es : Array (Int × Value)} {ep : Nat} {t : SetTable} (x : SetAt w h sa es ep t) (e : ∀ o, h.get? sa = some o → h'.get? sa = some o) : SetAt w h' sa es ep t := let ⟨o, ho, r⟩ := x; ⟨o, e _ ho, r⟩
theorem SetAt.fits {h : Heap} {sa : Nat} {es : Array (Int × Value)} {ep : Nat} {t : SetTable} (x : SetAt w h sa es ep t) : t.fits es.size = true := let ⟨_, _, _, _, hf, hr⟩ := x; hf.fits (by omega)

theorem setNext_X {sa : Addr} {es : Array (Int × Value)} {ep : Nat} {t : SetTable} {i : Nat} {Q : Option (Value × Nat) → Shared → Prop} (hS : SetAt w s.heap sa es ep t) (hi : i ≤ es.size)
    (h : Q (((sqOf w.params sa ep es)[i]?).map fun e => (e.2, slotOf w.params t (i + 1))) s) : wpAny (model prog w) A (setNext sa (slotOf w.params t i) i ep) Q E s := by
  have hfit := hS.fits
  obtain ⟨o, ho, hex, hd, hf, hr⟩ := hS
  unfold setNext
  refine wpAny_bind (wpAny_setState_of ho hd hfit ?_)
  dsimp only
  unfold setsByText
  refine wpAny_bind (wpAny_bind (wpAny_askSetting (wpAny_pure ?_)))
  dsimp only
  cases hb : w.params.followText "set-order" with
  | true =>
    have hb' : (model prog w).w.params.followText "set-order" = true := hb
    simp only [hb', if_true, bne_self_eq_false, Bool.false_eq_true, if_false]
    unfold setWalk
    refine wpAny_bind (wpAny_bind (wpAny_setState_of ho hd hfit ?_))
    dsimp only
    unfold setsByText
    refine wpAny_bind (wpAny_bind (wpAny_askSetting (wpAny_pure ?_)))
    dsimp only
    simp only [hb', if_true]
    refine wpAny_bind (wpAny_askSetting (wpAny_pure ?_))
    refine wpAny_pure ?_
    have e1 : sqOf w.params sa ep es = pickOrder (w.params.setOrder sa ep) es := by unfold sqOf; rw [if_pos hb]
    have e2 : slotOf w.params t (i + 1) = slotOf w.params t i := by unfold slotOf; rw [if_pos hb, if_pos hb]
    rw [e1, e2] at h
    exact h
  | false =>
    have hb' : (model prog w).w.params.followText "set-order" = false := hb
    simp only [hb', Bool.false_eq_true, if_false]
    have hled : t.led = true := by rw [hf.good.led, hb]; rfl
    have hpl := hf.plain
    have hrise := hf.good.rise
    have hsz := hf.size
    have e1 : sqOf w.params sa ep es = es := by unfold sqOf; rw [if_neg (by rw [hb]; decide)]
    have e2 : slotOf w.params t (i + 1) = t.place.getD i 0 + 1 := by unfold slotOf; rw [if_neg (by rw [hb]; decide)]
    have e3 : SetTable.below t.place (slotOf w.params t i) = i := by
      unfold slotOf
      rw [if_neg (by rw [hb]; decide)]
      cases i with
      | zero => exact below_zero hrise
      | succ k =>
        have hk : k < t.place.size := by omega
        have := below_next hrise hk
        simpa [Array.getD, hk] using this
    rw [e1, e2] at h
    obtain ⟨mask, place, dummies, finger, led, moves, plain⟩ := t
    dsimp only at hled hpl hsz e3 h
    subst hled; subst hpl
    split
    · rename_i hx
      exact absurd (show false = true from hx) (by decide)
    · refine wpAny_bind ?_
      show wpAny _ _ (if (!true && !es.isEmpty) = true then _ else pure ()) _ _ _
      rw [if_neg (by simp)]
      refine wpAny_pure ?_
      refine wpAny_pure ?_
      rw [e3]
      by_cases hlt : i < es.size
      · have hlt' : i < place.size := by omega
        rw [Array.getElem?_eq_getElem hlt, Array.getElem?_eq_getElem hlt']
        rw [Array.getElem?_eq_getElem hlt] at h
        simpa [Array.getD, hlt'] using h
      · rw [Array.getElem?_eq_none (by omega)]
        rw [Array.getElem?_eq_none (by omega)] at h
        simpa using h
end
end Mine
end
section
open PySem PyProof.Rows PySem.Spec
set_option maxRecDepth 100000
namespace Mine
-- SetE
section
variable {prog : Program} {w : World} {A : Around} {E : Value → Shared → Prop} {s : Shared}
theorem next_item {I sa : Addr} {es : Array (Int × Value)} {ep i : Nat} {t : SetTable} {v : Value} {Q : Option Value → Shared → Prop} (hit : IsSI s.heap I sa i es.size ep (slotOf w.params t i)) (hS : SetAt w s.heap sa es ep t) (hi : i < es.size)
    (hx : ∃ hh, (sqOf w.params sa ep es)[i]? = some (hh, v))
    (hQ : ∀ h', IsSI h' I sa (i + 1) es.size ep (slotOf w.params t (i + 1)) → Heap.SameBut I s.heap h' → Q (some v) { s with heap := h' }) : wpAny (model prog w) A (pyNext (.ref I)) Q E s := by
  obtain ⟨o, ho, hc, hd⟩ := id hit
  obtain ⟨hh, hx⟩ := hx
  have hfit := hS.fits
  obtain ⟨so, hso, hex, hsd, hf, hr⟩ := id hS
  unfold pyNext
  refine wpAny_bind (wpAny_attempt (wpAny_callSpecial?_slot (name := Str.ofString "__next__") hit.typeIs slot_si_next
    (wpAny_call_entry slot_si_next hit.typeIs entry_si_next ?_ (args_si_next _))))
  refine wpAny_bind (wpAny_pure ?_)
  refine wpAny_bind (wpAny_fieldsOf ho hd ?_)
  dsimp only
  refine wpAny_bind (wpAny_setEntries_of hso hsd hfit ?_)
  rw [if_neg (by simp)]
  dsimp only [Int.toNat_natCast]
  refine wpAny_bind (setNext_X hS (Nat.le_of_lt hi) ?_)
  rw [hx]
  dsimp only [Option.map]
  refine wpAny_bind (wpAny_setField ho hd (by simp) ?_)
  have ho1 : (s.heap.update I (Obj.mapFields (·.setIfInBounds 0 (rawInt (slotOf w.params t (i + 1)))))).get? I = some _ := Heap.get?_update_self _ ho (Obj.isFreed_of_fields (Obj.data_mapFields hd _))
  refine wpAny_bind (wpAny_setField ho1 (Obj.data_mapFields hd _) (by simp) ?_)
  refine wpAny_pure ⟨_, rfl, wpAny_pure (hQ _ ⟨_, Heap.get?_update_self _ ho1 (Obj.isFreed_of_fields (Obj.data_mapFields (Obj.data_mapFields hd _) _)), (Obj.cls_mapFields ..).trans ((Obj.cls_mapFields ..).trans hc), ?_⟩ ((Heap.SameBut.update ..).trans (Heap.SameBut.update ..)))⟩
  rw [Obj.data_mapFields (Obj.data_mapFields hd _)]
  simp [rawInt]

theorem next_end {I sa : Addr} {es : Array (Int × Value)} {ep : Nat} {t : SetTable} {Q : Option Value → Shared → Prop} (hh : A.handled = none) (hit : IsSI s.heap I sa es.size es.size ep (slotOf w.params t es.size)) (hS : SetAt w s.heap sa es ep t)
    (hQ : ∀ h', Heap.ExtBut I s.heap h' → Q none { s with heap := h' }) : wpAny (model prog w) A (pyNext (.ref I)) Q E s := by
  obtain ⟨o, ho, hc, hd⟩ := id hit
  have hfit := hS.fits
  obtain ⟨so, hso, hex, hsd, hf, hr⟩ := id hS
  have hlen : (sqOf w.params sa ep es).size = es.size := by
    have := (sqOf_perm w.params sa ep es).length_eq
    simpa using this
  unfold pyNext
  refine wpAny_bind (wpAny_attempt (wpAny_callSpecial?_slot (name := Str.ofString "__next__") hit.typeIs slot_si_next
    (wpAny_call_entry slot_si_next hit.typeIs entry_si_next ?_ (args_si_next _))))
  refine wpAny_bind (wpAny_pure ?_)
  refine wpAny_bind (wpAny_fieldsOf ho hd ?_)
  dsimp only
  refine wpAny_bind (wpAny_setEntries_of hso hsd hfit ?_)
  rw [if_neg (by simp)]
  dsimp only [Int.toNat_natCast]
  refine wpAny_bind (setNext_X hS (Nat.le_refl _) ?_)
  rw [Array.getElem?_eq_none (by omega)]
  dsimp only [Option.map]
  refine wpAny_bind (wpAny_setField ho hd (by simp) ?_)
  refine wpAny_bind ?_
  simp only [newExc, newTuple]
  refine wpAny_bind (wpAny_newObj_type ?_ (by size_fits))
  refine wpAny_bind (m := firstArgMember _ _) (wpAny_of_eq (a := Value.none) (by first | rfl | (simp only [firstArgMember]; rfl)) ?_)
  refine wpAny_newObj_type ?_ (by size_fits)
  simp only [raiseNew]
  refine wpAny_bind (wpAny_handled ?_)
  rw [show A.in1.handled = none from hh]
  refine wpAny_bind (wpAny_pure (wpAny_throw ?_))
  refine wpAny_bind (wpAny_isInstance (T := "StopIteration") (b := true) ⟨_, Heap.get?_push_size _ rfl, rfl⟩ isSubtype_stop ?_)
  exact wpAny_pure (hQ _ (((Heap.SameBut.update ..).extBut.push _).push _))

theorem iter_self {I sa i n ep slot : Nat} {Q : Value → Shared → Prop} (hit : IsSI s.heap I sa i n ep slot) (h : Q (.ref I) s) : wpAny (model prog w) A (pyIter (.ref I)) Q E s := by
  refine wpAny_pyIter_slot hit.typeIs slot_si_iter (wpAny_call_entry slot_si_iter hit.typeIs entry_si_iter ?_ (args_si_iter _))
  show wpAny _ _ (ret (.ref I)) _ _ s
  exact wpAny_pure ⟨_, rfl, "set_iterator", _, hit.typeIs, slot_si_next.lookup, h⟩

theorem set_walks (hh : A.handled = none) (I sa : Addr) (hne : sa ≠ I) (es : Array (Int × Value)) (ep : Nat) (t : SetTable) :
    Walks prog w A I [I, sa] [I] es.size (fun i v => ∃ hv, (sqOf w.params sa ep es)[i]? = some (hv, v)) (fun i h => IsSI h I sa i es.size ep (slotOf w.params t i) ∧ SetAt w h sa es ep t) where
  sub := fun b hb => by simp at hb; simp [hb]
  frame := fun _ _ _ st hk => ⟨st.1.at fun o e => hk I (by simp) o e, st.2.at fun o e => hk sa (by simp) o e⟩
  item := fun i s Q E hi st hQ => by
    have hlen : (sqOf w.params sa ep es).size = es.size := by
      have := (sqOf_perm w.params sa ep es).length_eq
      simpa using this
    have hi' : i < (sqOf w.params sa ep es).size := by omega
    refine next_item (v := ((sqOf w.params sa ep es)[i]).2) st.1 st.2 hi ⟨_, Array.getElem?_eq_getElem hi'⟩ fun h' hit' sb => ?_
    exact hQ _ h' s.toks ⟨_, Array.getElem?_eq_getElem hi'⟩ ⟨hit', st.2.at fun o e => sb.extBut sa o hne e⟩ fun b o hb e => sb.extBut b o (fun h => hb (by simp [h])) e
  done := fun s Q E st hQ => next_end hh st.1 st.2 fun h' he' => hQ h' s.toks fun b o hb e => he' b o (fun h => hb (by simp [h])) e
  self := fun _ _ _ _ st hQ => iter_self st.1 hQ

theorem iter_set {sa : Addr} {es : Array (Int × Value)} {ep : Nat} {t : SetTable} {Q : Value → Shared → Prop} (hS : SetAt w s.heap sa es ep t)
    (hQ : Q (.ref s.heap.objs.size) { s with heap := s.heap.push { cls := .type "set_iterator", data := .fields #[.int 0 0, .int 0 0, .ref sa, .int es.size 0, .int ep 0] } }) :
    wpAny (model prog w) A (pyIter (.ref sa)) Q E s := by
  have hfit := hS.fits
  obtain ⟨o, ho, hex, hd, hf, hr⟩ := hS
  have hT : s.TypeIs (.ref sa) "set" := ⟨o, ho, hex.1⟩
  have hpl := hf.plain
  refine wpAny_pyIter_slot hT F.slot_set_iter (wpAny_call_entry F.slot_set_iter hT entry_set_iter ?_ (F.args_set_iter_1 _))
  unfold Builtin.«frozenset.__iter__» Builtin.Frozenset.slot0 Builtin.Frozenset.sizeOf
  refine wpAny_bind (wpAny_bind (wpAny_pure (wpAny_pure ?_)))
  refine wpAny_bind (wpAny_bind (wpAny_setEntries_of ho hd hfit (wpAny_pure ?_)))
  unfold setDrawn
  refine wpAny_bind (wpAny_bind (wpAny_setState_of ho hd hfit ?_))
  dsimp only
  unfold setsByText
  refine wpAny_bind (wpAny_bind (wpAny_askSetting (wpAny_pure ?_)))
  obtain ⟨mask, place, dummies, finger, led, moves, plain⟩ := t
  dsimp only at hpl
  subst hpl
  refine wpAny_pure ?_
  rw [if_neg (fun hx => by
    rw [Bool.and_eq_true] at hx
    exact absurd (show false = true from hx.2) (by decide))]
  refine wpAny_bind (wpAny_pure ?_)
  unfold setEpoch
  refine wpAny_bind (wpAny_bind (wpAny_setState_of ho hd hfit (wpAny_pure ?_)))
  dsimp only
  refine wpAny_bind (wpAny_newObj_type (wpAny_pure ⟨_, rfl, "set_iterator", _, ⟨_, Heap.get?_push_size _ rfl, rfl⟩, slot_si_next.lookup, ?_⟩))
  simpa [rawInt] using hQ
end
end Mine
end
section
open PySem PyProof.Rows PySem.Spec
set_option maxRecDepth 100000
namespace Mine
-- SetF
theorem set_len : typeLookup (.type "set") "__len__" = pure (some (.builtin "set.__len__")) := by rw [typeLookup_type, builtinLookup_eq_fast]; kernel_rfl
section
variable {prog : Program} {w : World} {A : Around} {E : Value → Shared → Prop} {s : Shared}
set_option maxHeartbeats 6400000 in
theorem collect_set {sa : Addr} {es : Array (Int × Value)} {ep : Nat} {t : SetTable} {Q : List Value → Shared → Prop} (hh : A.handled = none) (hS : SetAt w s.heap sa es ep t) (hn : es.size ≤ 100)
    (hQ : ∀ h' tk, s.heap.objs.size < h'.objs.size → (∀ b o, s.heap.get? b = some o → h'.get? b = some o) → Q ((sqOf w.params sa ep es).toList.map (·.2)) { s with heap := h', toks := tk }) : wpAny (model prog w) A (collect (.ref sa)) Q E s := by
  have hlt : sa < s.heap.objs.size := by obtain ⟨o, ho, _⟩ := hS; exact Heap.lt_size ho
  have hne0 : s.heap.objs.size ≠ sa := Nat.ne_of_gt hlt
  have hltN : @LT.lt Nat _ sa s.heap.objs.size := hlt
  unfold collect
  refine wpAny_bind (wpAny_runValue (codeAny_builtin F.entry_proto_collect ?_))
  rw [Around.under_plainId F.plain_proto_collect _]
  show wpAny _ A.in1 (newList [] >>= fun l => again (.builtin "list.__iadd__" ⟨[l, .ref sa], []⟩)) _ _ s
  refine wpAny_bind (wpAny_newObj_type ?_)
  refine wpAny_pure ⟨plainId_quiet F.plain_list_iadd _, codeAny_builtin F.entry_list_iadd ?_⟩
  rw [Around.under_plainId F.plain_list_iadd _]
  show wpAny _ A.in1 (Builtin.List.listExtendWith (.ref s.heap.objs.size) (.ref sa) (.ref s.heap.objs.size)) _ _ _
  unfold Builtin.List.listExtendWith
  generalize hH1 : s.heap.push { cls := .type "list", data := .seq ([] : List Value).toArray } = H1
  have hk1 : ∀ b o, s.heap.get? b = some o → H1.get? b = some o := fun b o e => hH1 ▸ Heap.get?_push_of_some _ e
  have hS1 : SetAt w H1 sa es ep t := hS.at fun o e => hk1 _ o e
  have hz1 : H1.objs.size = s.heap.objs.size + 1 := by rw [← hH1, Heap.size_push]
  have hL1 : H1.get? s.heap.objs.size = some { cls := .type "list", data := .seq ([] : List Value).toArray } := hH1 ▸ Heap.get?_push_size _ rfl
  have hT : Shared.TypeIs { s with heap := H1 } (.ref sa) "set" := by obtain ⟨o, ho, hex, _⟩ := hS1; exact ⟨o, ho, hex.1⟩
  refine wpAny_bind (wpAny_typeOf hT ?_)
  have h1 : Builtin.List.listSameRef (.ref s.heap.objs.size) (.ref sa) = false := by simp [Builtin.List.listSameRef, hne0]
  have h2 : (Value.type "set" == Value.type "list") = false := by decide
  have h3 : (Value.type "set" == Value.type "tuple") = false := by decide
  simp only [h1, h2, h3, Bool.or_false, Bool.false_eq_true, if_false]
  refine wpAny_bind (iter_set hS1 ?_)
  generalize hH2 : H1.push { cls := .type "set_iterator", data := .fields #[.int 0 0, .int 0 0, .ref sa, .int es.size 0, .int ep 0] } = H2
  have hk2 : ∀ b o, H1.get? b = some o → H2.get? b = some o := fun b o e => hH2 ▸ Heap.get?_push_of_some _ e
  have hS2 : SetAt w H2 sa es ep t := hS1.at fun o e => hk2 _ o e
  have hI2 : IsSI H2 H1.objs.size sa 0 es.size ep (slotOf w.params t 0) := by
    refine ⟨_, hH2 ▸ Heap.get?_push_size _ rfl, rfl, ?_⟩
    have : slotOf w.params t 0 = 0 := by unfold slotOf; split <;> rfl
    rw [this]; rfl
  have hL2 : H2.get? s.heap.objs.size = some { cls := .type "list", data := .seq ([] : List Value).toArray } := hk2 _ _ hL1
  have hT2 : Shared.TypeIs { s with heap := H2 } (.ref sa) "set" := by obtain ⟨o, ho, hex, _⟩ := hS2; exact ⟨o, ho, hex.1⟩
  refine wpAny_bind (wpAny_holding ?_)
  unfold Builtin.List.listLengthHint
  refine wpAny_bind (wpAny_specialOf hT2 set_len ?_)
  (generalize hid : ("set.__len__" : String) = id0; (fail_if_success (clear hid id0)); wp_delta; rw [show splitId id0 = some ("set", "__len__") from by subst hid; decide +kernel]; subst hid)
  refine wpAny_bind (wpAny_isInstance (b := true) hT2 sub_set_self ?_)
  show wpAny _ A.in1 (typeOf (.ref sa) >>= _) _ _ _
  refine wpAny_bind (wpAny_typeOf hT2 ?_)
  refine wpAny_pure ?_
  show wpAny _ A.in1 (rule "list.extend.makes-room" >>= fun _ => Builtin.List.listTouch (.ref s.heap.objs.size) >>= fun _ =>
    again (.builtin "list.extend.loop" ⟨[.ref s.heap.objs.size, .ref H1.objs.size, .ref s.heap.objs.size], []⟩)) _ _ _
  refine wpAny_bind (wpAny_rule ?_)
  refine wpAny_bind ?_
  show wpAny _ A.in1 (updateSeq s.heap.objs.size (·.push .none) >>= fun _ => updateSeq s.heap.objs.size (·.pop)) _ _ _
  refine wpAny_bind (wpAny_updateSeq hL2 rfl ?_)
  have hL3 := Heap.get?_update_self (Obj.mapSeq (·.push Value.none)) hL2 rfl
  refine wpAny_updateSeq hL3 rfl ?_
  have hL4 := Heap.get?_update_self (Obj.mapSeq (·.pop)) hL3 rfl
  have oth : ∀ b o, b ≠ s.heap.objs.size → H2.get? b = some o → ((H2.update s.heap.objs.size (Obj.mapSeq (·.push Value.none))).update s.heap.objs.size (Obj.mapSeq (·.pop))).get? b = some o :=
    fun b o hb e => (Heap.get?_update_other _ _ (Ne.symm hb)).trans ((Heap.get?_update_other _ _ (Ne.symm hb)).trans e)
  have hneI : @Ne Nat sa H1.objs.size := by omega
  have hSf : s.heap.objs.size ∉ [H1.objs.size, sa] := by
    simp only [List.mem_cons, List.not_mem_nil, or_false, not_or]
    exact ⟨fun e => by have e' : (s.heap.objs.size : Nat) = H1.objs.size := e; omega, hne0⟩
  have W := (set_walks (prog := prog) (w := w) (A := A.in1) (by simp [hh]) H1.objs.size sa hneI es ep t).toS
  refine wpAny_pure ⟨plainId_quiet F.plain_extend_loop _, codeAny_extend_loopS W (by rw [PySem.sizeLine_eq]; omega) _ hSf _ es.size 0 _ _ _ rfl (Nat.zero_le _)
    ⟨hI2.at fun o e => oth _ o (fun e9 => by have e' : (H1.objs.size : Nat) = s.heap.objs.size := e9; omega) e, hS2.at fun o e => oth _ o (Ne.symm hne0) e⟩ hL4 (ItemsOf.nil _) fun s' acc' c' hm hS' hacc => ?_⟩
  show wpAny _ A (load s.heap.objs.size >>= _) _ _ s'
  refine wpAny_bind (wpAny_load hS' ?_)
  obtain ⟨h', g', d', tk', os'⟩ := s'
  have eg : g' = s.gens := hm.gens
  have ed : d' = s.drawn := hm.drawn
  have eo : os' = s.os := hm.os
  subst eg; subst ed; subst eo
  have hlen : (sqOf w.params sa ep es).size = es.size := by
    have := (sqOf_perm w.params sa ep es).length_eq
    simpa using this
  have hitems : acc'.toList = (sqOf w.params sa ep es).toList.map (·.2) := by
    refine List.ext_getElem? fun i => ?_
    by_cases hi : i < acc'.size
    · obtain ⟨hv, hx⟩ := hacc.2 i acc'[i] (Array.getElem?_eq_getElem hi)
      rw [Array.getElem?_toList, Array.getElem?_eq_getElem hi, List.getElem?_map, Array.getElem?_toList, hx]
      rfl
    · rw [Array.getElem?_toList, Array.getElem?_eq_none (by omega), List.getElem?_map, Array.getElem?_toList, Array.getElem?_eq_none (by have := hacc.1; omega)]
      rfl
  show wpAny _ A (pure acc'.toList) _ _ _
  rw [hitems]
  refine wpAny_pure (hQ h' tk' (Heap.lt_size hS') fun b o e => ?_)
  have hb : b < s.heap.objs.size := Heap.lt_size e
  exact hm.heap b o (by simp only [List.mem_cons, List.not_mem_nil, or_false, not_or]; exact ⟨Nat.ne_of_lt hb, fun e9 => by have e' : @Eq Nat b H1.objs.size := e9; have hb' : @LT.lt Nat _ b s.heap.objs.size := hb; omega⟩) (oth b o (Nat.ne_of_lt hb) (hk2 _ _ (hk1 _ _ e)))

set_option maxHeartbeats 6400000 in
theorem sorted_set {sa : Addr} {S : List Int} {Q : Value → Shared → Prop} (hh : A.handled = none) (hX : IsSetX prog w s.heap sa S) (hn : S.length ≤ 40)
    (hQ : ∀ D h' tk vs' ns' c, (∀ b o, s.heap.get? b = some o → h'.get? b = some o) → s.heap.objs.size ≤ D → h'.get? D = some (lstOf vs' c) → IntsAre vs' ns' → ns'.Perm S → ns'.Pairwise (· ≤ ·) → Q (.ref D) { s with heap := h', toks := tk }) :
    wpAny (model prog w) A (call (.builtin "sorted") [.ref sa]) Q E s := by
  obtain ⟨o, es, ep, t, ho, hex, hd, hel, hp, hnear, hfine, hroom⟩ := hX
  have hsz := IsSetX.size hp
  have hS : SetAt w s.heap sa es ep t := ⟨o, ho, hex, hd, hfine, hroom⟩
  refine Calls.call_function_entry kind_sorted plain_sorted entry_sorted (args_sorted1 _) ?_
  unfold Builtin.«sorted»
  refine wpAny_bind (m := checkCount "sorted" 1 1 _) (wpAny_pure ?_)
  refine wpAny_bind (collect_set (by simp [hh]) hS (by omega) fun h1 tk1 hlt1 hk1 => ?_)
  generalize hvs : (sqOf w.params sa ep es).toList.map (·.2) = vs
  have hI : IntsAre vs ((sqOf w.params sa ep es).toList.map fun e => valOf e.2) := by
    have hel' : ∀ e ∈ (sqOf w.params sa ep es).toList, ∃ k tk, e.2 = .int k tk := fun e he => by
      obtain ⟨⟨k, hk, _⟩, _⟩ := hel e ((sqOf_perm w.params sa ep es).mem_iff.mp he)
      obtain ⟨tk, e'⟩ := int_of_is hk
      exact ⟨k, tk, e'⟩
    rw [← hvs]
    generalize (sqOf w.params sa ep es).toList = l at hel'
    clear hvs
    induction l with
    | nil => exact .nil
    | cons e r ih =>
      obtain ⟨k, tk, e'⟩ := hel' e (.head _)
      simp only [List.map_cons, e', valOf]
      exact .cons k tk (ih fun x hx => hel' x (.tail _ hx))
  have hperm : ((sqOf w.params sa ep es).toList.map fun e => valOf e.2).Perm S := ((sqOf_perm w.params sa ep es).map _).trans hp
  have hlen : vs.length = S.length := by rw [hI.length, hperm.length_eq]
  refine wpAny_bind (wpAny_newList ?_ (by rw [PySem.sizeLine_eq]; omega))
  have hoL : (h1.push (seqObj "list" vs.toArray 0)).get? h1.objs.size = some (seqObj "list" vs.toArray 0) := Heap.get?_push_size _ rfl
  refine wpAny_bind (wpAny_holding (wpAny_call_entry (s := { s with heap := h1.push (seqObj "list" vs.toArray 0), toks := tk1 }) slot_list_sort ⟨_, hoL, rfl⟩ entry_list_sort (list_sort_tree hoL hI (by omega) fun out ns' a1 a2 a3 => ⟨_, rfl, ?_⟩) (args_list_sort _)))
  refine wpAny_pure ⟨_, rfl, ?_⟩
  obtain ⟨c, hc⟩ := sortedHeap_at (vs := vs) (out := out) hoL
  refine hQ h1.objs.size _ tk1 out.toList ns' c (fun b o e => ?_) (Nat.le_of_lt hlt1) ?_ a1 (a2.trans hperm) a3
  · have hb := hk1 b o e
    have hbl : b < h1.objs.size := Heap.lt_size hb
    rw [sortedHeap_old (Nat.ne_of_lt hbl) (by rw [Heap.size_push]; exact Nat.lt_succ_of_lt hbl)]
    exact Heap.get?_push_of_some _ hb
  · rw [hc]
end
end Mine
end
section
open PySem PySem.W PyProof.Rows PySem.Spec
set_option maxRecDepth 100000
namespace Mine
-- SetN
def SetObjX (prog : Program) (w : World) (o : Obj) (S : List Int) : Prop :=
  ∃ es ep t, o.ExactSet ∧ o.data = .set es ep t ∧ ElemsOf (intKind prog w) es.toList ∧ (es.toList.map fun e => valOf e.2).Perm S ∧ (∀ k ∈ S, -12 ≤ k ∧ k ≤ 12) ∧ Fine (!w.params.followText "set-order") es.size t ∧ es.size * 5 < t.mask * 3
/-- r holds what ns holds, rising -/
def SD (r ns : List Int) : Prop := r.Pairwise (· < ·) ∧ ∀ x, x ∈ r ↔ x ∈ ns
theorem sd_of {r ns : List Int} (hp : r.Perm (ns.foldl step_dedup [])) (hs : r.Pairwise (· ≤ ·)) : SD r ns := by
  have hn : r.Nodup := hp.nodup_iff.mpr (dedup_nodup ns [] List.nodup_nil)
  refine ⟨?_, fun x => ?_⟩
  · have := List.pairwise_and_iff.mpr ⟨hs, hn⟩
    exact this.imp fun h => by have := h.1; have := h.2; omega
  · rw [hp.mem_iff, dedup_mem]; simp
theorem sd_unique : ∀ {a b : List Int}, a.Pairwise (· < ·) → b.Pairwise (· < ·) → (∀ x, x ∈ a ↔ x ∈ b) → a = b
  | [], [], _, _, _ => rfl
  | [], y :: r, _, _, h => by have := (h y).mpr (.head _); cases this
  | x :: r, [], _, _, h => by have := (h x).mp (.head _); cases this
  | x :: r, y :: q, ha, hb, h => by
    have hx := List.pairwise_cons.mp ha
    have hy := List.pairwise_cons.mp hb
    have e : x = y := by
      rcases List.mem_cons.mp ((h x).mp (.head _)) with h1 | h1
      · exact h1
      · rcases List.mem_cons.mp ((h y).mpr (.head _)) with h2 | h2
        · exact h2.symm
        · have := hy.1 x h1; have := hx.1 y h2; omega
    subst e
    refine congrArg _ (sd_unique hx.2 hy.2 fun z => ⟨fun hz => ?_, fun hz => ?_⟩)
    · rcases List.mem_cons.mp ((h z).mp (.tail _ hz)) with h1 | h1
      · have := hx.1 z hz; omega
      · exact h1
    · rcases List.mem_cons.mp ((h z).mpr (.tail _ hz)) with h1 | h1
      · have := hy.1 z hz; omega
      · exact h1
section
variable {prog : Program} {w : World} {A : Around} {E : Value → Shared → Prop} {s : Shared} {h₀ : Heap} {L : Addr} {m : Str → Option Value} {news : List (Addr × Obj)}
theorem setX_N {l : Addr} {vs : List Value} {n : Nat} {ns : List Int} {Q : Value → Shared → Prop} (F : Fr h₀ L s.heap m) (N : News h₀ L s.heap news) (hh : A.handled = none) (hm : (l, lstOf vs n) ∈ news) (hi : IntsAre vs ns) (hb : ∀ x ∈ ns, -12 ≤ x ∧ x ≤ 12)
    (k : ∀ D h' tk so, Fr h₀ L h' m → News h₀ L h' ((D, so) :: news) → (∀ p ∈ news, p.1 < D) → SetObjX prog w so (ns.foldl step_dedup []) → Q (.ref D) { s with heap := h', toks := tk }) :
    wpAny (model prog w) A (call (.type "set") [.ref l]) Q E s := by
  refine set_of_list hh ⟨_, (N _ hm).1, rfl, n, rfl⟩ hi hb fun h' tk hX hk => ?_
  obtain ⟨so, es, ep, t, ho, hex, hd, r⟩ := hX
  have hLt : L < s.heap.objs.size := F.ns.lt
  refine k _ h' tk so ⟨F.ns.at' fun o e => hk L o hLt e, fun b o e => hk b o (Heap.lt_size (F.keep b o e)) (F.keep b o e), F.above⟩ (fun p hp => ?_) (fun p hp => Heap.lt_size (N p hp).1) ⟨es, ep, t, hex, hd, r⟩
  rcases List.mem_cons.mp hp with rfl | hp
  · refine ⟨ho, Nat.ne_of_gt hLt, ?_⟩
    cases hq : h₀.get? s.heap.objs.size with
    | none => rfl
    | some o' => exact absurd (Heap.lt_size (F.keep _ _ hq)) (Nat.lt_irrefl _)
  · exact ⟨hk _ _ (Heap.lt_size (N p hp).1) (N p hp).1, (N p hp).2⟩
theorem sortedX_N {sa : Addr} {so : Obj} {ns : List Int} {Q : Value → Shared → Prop} (F : Fr h₀ L s.heap m) (N : News h₀ L s.heap news) (hh : A.handled = none) (hm : (sa, so) ∈ news) (hX : SetObjX prog w so (ns.foldl step_dedup []))
    (k : ∀ D h' tk vs' ns' c, Fr h₀ L h' m → News h₀ L h' ((D, lstOf vs' c) :: news) → (∀ p ∈ news, p.1 < D) → IntsAre vs' ns' → SD ns' ns → Q (.ref D) { s with heap := h', toks := tk }) :
    wpAny (model prog w) A (call (.builtin "sorted") [.ref sa]) Q E s := by
  obtain ⟨es, ep, t, hex, hd, hel, hp, hnear, r⟩ := hX
  have hshort : (ns.foldl step_dedup []).length ≤ 25 := nodup_le (-12) 25 _ (dedup_nodup ns [] List.nodup_nil) fun x hx => by have := hnear x hx; omega
  refine sorted_set hh ⟨so, es, ep, t, (N _ hm).1, hex, hd, hel, hp, hnear, r⟩ (by omega) fun D h' tk vs' ns' c hk hD hDo hI hperm hsort => ?_
  refine k D h' tk vs' ns' c (F.grownK hk) (fun p hp => ?_) (fun p hp => Nat.lt_of_lt_of_le (Heap.lt_size (N p hp).1) hD) hI (sd_of hperm hsort)
  rcases List.mem_cons.mp hp with rfl | hp
  · refine ⟨hDo, ?_, ?_⟩
    · exact Nat.ne_of_gt (Nat.lt_of_lt_of_le F.ns.lt hD)
    · cases hq : h₀.get? D with
      | none => rfl
      | some o' => exact absurd (Nat.lt_of_lt_of_le (Heap.lt_size (F.keep _ _ hq)) hD) (Nat.lt_irrefl _)
  · exact ⟨hk _ _ (N p hp).1, (N p hp).2⟩
end
end Mine
end
section
open PySem PySem.W PyProof.Rows PySem.Calls PySem.Spec
set_option maxRecDepth 100000
namespace Mine
-- Use
theorem made_news {s : Shared} {h₀ h' : Heap} {L : Addr} {m : Str → Option Value} {news old made : List (Addr × Obj)} (F : Fr h₀ L s.heap m) (N : News h₀ L s.heap news) (hs : ∀ q ∈ old, q ∈ news)
    (hM : ∀ q ∈ made, h'.get? q.1 = some q.2 ∧ (s.heap.get? q.1 = none ∨ q.1 ∈ old.map (·.1))) : News h₀ L h' made := fun q hq => by
  obtain ⟨e, hf⟩ := hM q hq
  rcases hf with hf | hf
  · refine ⟨e, fun e' => ?_, ?_⟩
    · obtain ⟨oL, _, _, hLo, _⟩ := F.ns
      have hf' : s.heap.get? L = none := by rw [← e']; exact hf
      rw [hLo] at hf'; cases hf'
    · cases hq0 : h₀.get? q.1 with
      | none => rfl
      | some ob => rw [F.keep _ _ hq0] at hf; cases hf
  · obtain ⟨p, hp, e'⟩ := List.mem_map.mp hf
    have := N p (hs p hp)
    rw [← e']
    exact ⟨by rw [e']; exact e, this.2⟩
section
variable {w : World} {mean : ExcName → Option Value} {mg mb : Str → Option Value} {news : List (Addr × Obj)}
  {dp un : Nat} {gd : Option (List Code)} {cn : Str} {cs : Scope} {a : Addr} {ccd : Value} {cl : List (Str × Addr)} {outer : List Env} {A₀ : Around} {base h₀ : Heap} {L : Addr} {m : Str → Option Value} {s : Shared} {Q E : Value → Shared → Prop}
theorem trip_use {cc bx t0 t1 t2 : Addr} {co : Obj} {n : Nat} {x0 x1 y0 y1 z0 z1 : Int} {u0 u1 u2 u3 u4 u5 : Tok}
   (B : Below A₀ base outer h₀) (F : Fr h₀ L s.heap m) (X : (hd.heap_39 w.params).In h₀) (N : News h₀ L s.heap news) (T : Top viewL (looseW viewL []) mean mg mb h₀) (hk : cs.kind = .function)
   (hd : dp + 4 < recursionLimit) (hu : un + 100 * 4 < cLine) (hs : ∀ q ∈ boxO bx t0 t1 t2 n x0 x1 y0 y1 z0 z1 u0 u1 u2 u3 u4 u5, q ∈ news) (hcc : (cc, co) ∈ news) (hoff : @Ne Nat bx cc ∧ @Ne Nat t0 cc ∧ @Ne Nat t1 cc ∧ @Ne Nat t2 cc)
   (hx : -9 ≤ x0 ∧ x1 ≤ 9 ∧ x0 ≤ x1) (hy : -12 ≤ y0 ∧ y1 ≤ 12 ∧ y0 ≤ y1)
   (k : ∀ tl vs ln tups h' tk', @Ne Nat tl cc → OwnOff tups [cc] → TA tups vs (tripsL x0 x1 y0 y1 z0 z1) → vs.length ≤ 100000 → Fr h₀ L h' m → News h₀ L h' ((tl, lstOf vs ln) :: (news ++ tups)) → Q (.ref tl) { s with heap := h', toks := tk' }) :
    wpAny (model PySem.Challenge.rw_ok0088_01.row.prog w) (ktrTop dp un gd cn cs L a ccd cl outer) (call (.ref 246) [.ref bx]) Q E s := by
  refine Fn.use (trip_ok w mean mg mb bx t0 t1 t2 n x0 x1 y0 y1 z0 z1 u0 u1 u2 u3 u4 u5 hx.1 hx.2.1 hx.2.2 hy.1 hy.2.1 hy.2.2) B F X N T hk hd hu hs fun v made h' tk' hK F' N' hM hp => ?_
  obtain ⟨tl, vs, ln, tups, rfl, rfl, hT, _, hl⟩ := hp
  have hnc : s.heap.get? cc = some co := (N _ hcc).1
  have off : ∀ q ∈ (tl, lstOf vs ln) :: tups, q.1 ≠ cc := fun q hq e => by
    rcases (hM q hq).2 with h9 | h9
    · rw [e, hnc] at h9; cases h9
    · rw [e] at h9
      simp only [boxO, List.map_cons, List.map_nil, List.mem_cons, List.not_mem_nil, or_false] at h9
      rcases h9 with h9 | h9 | h9 | h9
      · exact hoff.1 h9.symm
      · exact hoff.2.1 h9.symm
      · exact hoff.2.2.1 h9.symm
      · exact hoff.2.2.2 h9.symm
  have NM := made_news F N hs hM
  refine k tl vs ln tups h' tk' (off _ (.head _)) (fun q hq b hb => by rw [List.mem_singleton.mp hb]; exact off q (.tail _ hq)) hT hl F' fun q hq => ?_
  rcases List.mem_cons.mp hq with rfl | hq
  · exact NM _ (.head _)
  · rcases List.mem_append.mp hq with hq | hq
    · exact N' q hq
    · exact NM q (.tail _ hq)
theorem told_use {x d bx t0 t1 t2 : Addr} {n : Nat} {x0 x1 y0 y1 z0 z1 : Int} {u0 u1 u2 u3 u4 u5 s1 s2 s3 s4 : Tok} {v1 v2 v3 v4 : Value}
   (B : Below A₀ base outer h₀) (F : Fr h₀ L s.heap m) (X : (hd.heap_39 w.params).In h₀) (N : News h₀ L s.heap news) (T : Top viewL (looseW viewL []) mean mg mb h₀) (hk : cs.kind = .function)
   (hd : dp + 9 < recursionLimit) (hu : un + 100 * 9 < cLine) (hs : ∀ q ∈ (x, instObj 216 d) :: (d, remD w.params s1 s2 s3 s4 v1 v2 v3 v4) :: boxO bx t0 t1 t2 n x0 x1 y0 y1 z0 z1 u0 u1 u2 u3 u4 u5, q ∈ news)
   (hx : -9 ≤ x0 ∧ x1 ≤ 9 ∧ x0 ≤ x1) (hy : -12 ≤ y0 ∧ y1 ≤ 12 ∧ y0 ≤ y1) (hz : -20 ≤ z0 ∧ z1 ≤ 20 ∧ z0 ≤ z1)
   (k : ∀ l a b c nl va na vb nb vc nc h' tk', IntsAre va (row0 x0 x1 y0 y1 z0 z1) → IntsAre vb (row1 x0 x1 y0 y1 z0 z1) → IntsAre vc (row2 x0 x1 y0 y1 z0 z1) → Fr h₀ L h' m →
     News h₀ L h' ((l, lstOf [.ref a, .ref b, .ref c] nl) :: (a, lstOf va na) :: (b, lstOf vb nb) :: (c, lstOf vc nc) :: news) → Q (.ref l) { s with heap := h', toks := tk' }) :
    wpAny (model PySem.Challenge.rw_ok0088_01.row.prog w) (ktrTop dp un gd cn cs L a ccd cl outer) (call (.ref 251) [.ref x, .ref bx]) Q E s := by
  refine Fn.use (told_ok w mean mg mb x d bx t0 t1 t2 n x0 x1 y0 y1 z0 z1 u0 u1 u2 u3 u4 u5 s1 s2 s3 s4 v1 v2 v3 v4 hx.1 hx.2.1 hx.2.2 hy.1 hy.2.1 hy.2.2 hz.1 hz.2.1 hz.2.2) B F X N T hk hd hu hs fun v made h' tk' hK F' N' hM hp => ?_
  obtain ⟨l, ra, rb, rc, nl, va, na, vb, nb, vc, nc, rfl, rfl, i1, i2, i3⟩ := hp
  have NM := made_news F N hs hM
  refine k l ra rb rc nl va na vb nb vc nc h' tk' i1 i2 i3 F' fun q hq => ?_
  rw [show (l, lstOf [.ref ra, .ref rb, .ref rc] nl) :: (ra, lstOf va na) :: (rb, lstOf vb nb) :: (rc, lstOf vc nc) :: news = [(l, lstOf [.ref ra, .ref rb, .ref rc] nl), (ra, lstOf va na), (rb, lstOf vb nb), (rc, lstOf vc nc)] ++ news from rfl] at hq
  exact (List.mem_append.mp hq).elim (NM q) (N' q)
end

section
variable {prog : Program} {w : World} {A : Around} {h₀ : Heap} {L : Addr} {m : Str → Option Value} {env : Env} {elt : PySem.Expr} {x : Str} {scope : Scope} {cl : List (Str × Addr)} {s : Shared} {S : List (Addr × Obj) → Prop} {Fin : List Value → List (Addr × Obj) → Prop} {news : List (Addr × Obj)}
/-- a comprehension over the list of triples -/
theorem rest_trip {vs : List Value} {ts : List (Int × Int × Int)} {tups : List (Addr × Obj)} (f : Int × Int × Int → Int) (hT : TA tups vs ts) (hsub : ∀ p ∈ tups, p ∈ news)
    (turn : ∀ a tr tx ty tz I oI C oC D m₂ ys h tk (E' : Value → Shared → Prop), tr ∈ ts → LCg.NsObj oC m₂ → m₂ x = some (.ref a) → Fr h₀ L h m → News h₀ L h ((a, tupOf [.int tr.1 tx, .int tr.2.1 ty, .int tr.2.2 tz]) :: (I, oI) :: (C, oC) :: (D, LCg.lst ys) :: news) → LCg.Off3 I C D news → ((@Ne Nat I C) ∧ (@Ne Nat I D) ∧ (@Ne Nat C D)) →
      wpAny (model prog w) A (eval elt (compEnvC scope cl C env)) (LCg.CompEnd h₀ L m { s with heap := h, toks := tk } I oI C oC D (LCg.lst ys) S (fun y news' => KCfEl news (f tr) y news')) E' { s with heap := h, toks := tk })
    (fin : ∀ ys, IntsAre ys (ts.map f) → Fin ys news) : LCg.CompRest prog w A h₀ L m env elt x scope cl s S (fun i v => vs.toArray[i]? = some v) Fin vs.toArray.size 0 [] news := by
  have htl : ∀ {vs : List Value} {ts : List (Int × Int × Int)}, TA tups vs ts → vs.length = ts.length := by
    intro vs ts h
    induction h with
    | nil => rfl
    | cons _ _ ih => simp [ih]
  have hat : ∀ {vs : List Value} {ts : List (Int × Int × Int)}, TA tups vs ts → ∀ (i : Nat) (v : Value), vs[i]? = some v → ∃ (a : Addr) (tr : Int × Int × Int) (tx ty tz : Tok), v = Value.ref a ∧ ts[i]? = some tr ∧ (a, tupOf [.int tr.1 tx, .int tr.2.1 ty, .int tr.2.2 tz]) ∈ tups := by
    intro vs ts h
    induction h with
    | nil => intro i v e; simp at e
    | cons hm _ ih =>
      intro i v e
      cases i with
      | zero => simp at e; exact ⟨_, (_, _, _), _, _, _, e.symm, rfl, hm⟩
      | succ i => simpa using ih i v (by simpa using e)
  have key : ∀ (j i : Nat) (ys : List Value), i + j = ts.length → IntsAre ys ((ts.take i).map f) → LCg.CompRest prog w A h₀ L m env elt x scope cl s S (fun i v => vs.toArray[i]? = some v) Fin j i ys news := by
    intro j
    induction j with
    | zero =>
      intro i ys hi hy
      have e : i = ts.length := by omega
      subst e
      rw [List.take_length] at hy
      exact LCg.CompRest.zero (fin ys hy)
    | succ j ih =>
      intro i ys hi hy
      refine LCg.CompRest.succ ?_
      intro v I oI C oC D m₂ h tk E' hv hC hx F N off ne
      obtain ⟨a, tr, tx, ty, tz, rfl, htr, hm⟩ := hat hT i v (by simpa using hv)
      have N2 : News h₀ L h ((a, tupOf [.int tr.1 tx, .int tr.2.1 ty, .int tr.2.2 tz]) :: (I, oI) :: (C, oC) :: (D, LCg.lst ys) :: news) := fun q hq => by
        rcases List.mem_cons.mp hq with rfl | hq
        · exact N _ (.tail _ (.tail _ (.tail _ (hsub _ hm))))
        · exact N q hq
      refine wpAny_mono (turn a tr tx ty tz I oI C oC D m₂ ys h tk E' (List.mem_of_getElem? htr) hC hx F N2 off ne) (fun y s₂ hq => ?_) fun _ _ e => e
      obtain ⟨h', tk', nw, e, F', N', off', hS, hn, t', hy'⟩ := hq
      rw [hn] at N' off' hS
      refine ⟨h', tk', news, e, F', N', off', hS, ?_⟩
      rw [hy']
      refine ih (i + 1) _ (by omega) ?_
      rw [List.take_add_one, htr]
      simpa using IntsAre.append hy (.cons (f tr) t' .nil)
  have hsz : vs.toArray.size = ts.length := by rw [List.size_toArray]; exact htl hT
  rw [hsz]
  exact key ts.length 0 [] (by omega) (by simp only [List.take_zero, List.map_nil]; exact .nil)
end
end Mine
end
section
open PySem PySem.W PyProof.Rows PySem.Calls PySem.Spec
open PyProof.Rows.LCg
namespace Mine
-- Lcc
def CompRestC (prog : Program) (w : World) (A : Around) (h₀ : Heap) (L : Addr) (m : Str → Option Value) (env : Env) (elt : PySem.Expr) (x : Str) (scope : Scope) (cl : List (Str × Addr)) (s : Shared) (P : Nat → Value → Prop)
    (Fin : List Value → List (Addr × Obj) → Prop) : Nat → Nat → List Value → List (Addr × Obj) → Prop
  | 0, _, ys, news => Fin ys news
  | k + 1, i, ys, news => ∀ v I oI C oC D K oK m₂ h tk (E' : Value → Shared → Prop), P i v → NsObj oC m₂ → oK.data = .cell (some v) → Fr h₀ L h m → News h₀ L h ((I, oI) :: (C, oC) :: (D, lst ys) :: (K, oK) :: news) → Off3 I C D ((K, oK) :: news) → Off1 K news → ((@Ne Nat I C) ∧ (@Ne Nat I D) ∧ (@Ne Nat C D)) →
      wpAny (model prog w) A (eval elt (compEnvC scope ((x, K) :: cl) C env)) (CompEnd h₀ L m { s with heap := h, toks := tk } I oI C oC D (lst ys) (fun _ => True) (fun y news' => ∃ oK' news'', news' = (K, oK') :: news'' ∧ (∃ v, oK'.data = .cell v) ∧ Off1 K news'' ∧ CompRestC prog w A h₀ L m env elt x scope cl s P Fin k (i + 1) (ys ++ [y]) news'')) E' { s with heap := h, toks := tk }
theorem Off1.all {D : Addr} : ∀ {l : List (Addr × Obj)}, Off1 D l → ∀ p ∈ l, p.1 ≠ D
  | [], _, _, h => nomatch h
  | _ :: _, x, p, h => by
    rcases List.mem_cons.mp h with rfl | h
    · exact x.1
    · exact Off1.all x.2 p h
theorem Off1.of {D : Addr} : ∀ {l : List (Addr × Obj)}, (∀ p ∈ l, p.1 ≠ D) → Off1 D l
  | [], _ => trivial
  | _ :: _, h => ⟨h _ List.mem_cons_self, Off1.of fun p hp => h p (List.mem_cons_of_mem _ hp)⟩
section
variable {M : Model} {A : Around} {E : Value → Shared → Prop} {s : Shared}
theorem newEnvC1 {scope : Scope} {globals : Addr} {cl : List (Str × Addr)} {qual x : Str} {env : Env} {Q : Env → Shared → Prop} (hcf : ∀ n, cellsFrom n scope.names cl = (x, n) :: cl) (hpc : ∀ h, pushCells h scope.names = h.push { cls := .type "cell", data := .cell none })
    (hQ : Q { scope, locals := s.heap.objs.size, globals, cells := (x, s.heap.objs.size + 1) :: cl, qual, func := none, code := env.code, frame := env.frame, builtins := env.builtins } { s with heap := (s.heap.push { cls := .type "dict", data := .dict #[] }).push { cls := .type "cell", data := .cell none } }) :
    wpAny M A (newFunctionEnv scope globals cl [] qual none .none (some env)) Q E s := by
  simp only [newFunctionEnv, Option.isSome_some, if_true]
  refine wpAny_bind (wpAny_alloc ?_)
  refine wpAny_bind (wpAny_layCells _ (fun name kind cells => by cases hkc : kind == NameKind.cell <;> simp [hkc]) _ _ _ _ ?_)
  rw [hcf, hpc, show ({ s with heap := s.heap.push { cls := .type "dict", data := .dict #[] } } : Shared).heap.objs.size = s.heap.objs.size + 1 from Heap.size_push ..]
  refine wpAny_bind ?_
  rw [List.forIn_nil]
  exact wpAny_pure (wpAny_pure hQ)
end
section
variable {prog : Program} {w : World} {A : Around} {E : Value → Shared → Prop} {s : Shared} {h₀ : Heap} {L : Addr} {m : Str → Option Value} {env : Env}
theorem block_UC {elt iter : PySem.Expr} {x : Str} {px : Pos} {scope : Scope} {cl : List (Str × Addr)} {pos : Pos} {s₂ : Shared} {I : Addr} {n : Nat} {P : Nat → Value → Prop} {St : Nat → Heap → Prop} {news : List (Addr × Obj)}
    {Fin : List Value → List (Addr × Obj) → Prop} {RR : Value → Addr → Result → Shared → Prop}
    (W : Walks prog w A I [I] [I] n P St) (hsz : n ≤ sizeLine) (hIo : ∀ i h, St i h → ∃ o, h.get? I = some o)
    (hSt : ∀ i h h' o nw, St i h → h.get? I = some o → h'.get? I = some o → (∀ b o, h₀.get? b = some o → h'.get? b = some o) → News h₀ L h' nw → True → St i h')
    (hcf : ∀ n, cellsFrom n scope.names cl = (x, n) :: cl) (hpc : ∀ h, pushCells h scope.names = h.push { cls := .type "cell", data := .cell none }) (hkind : scope.kind = .function) (hx : (relabel scope env).names.lookup x = some .cell) (hst : St 0 s₂.heap) (hIlt : I < s₂.heap.objs.size)
    (F : Fr h₀ L s₂.heap m) (N : News h₀ L s₂.heap news) (hIL : L ≠ I) (hI₀ : h₀.get? I = none) (off : ∀ p ∈ news, p.1 ≠ I)
    (R : CompRestC prog w A h₀ L m env elt x scope cl s₂ P Fin n 0 [] news)
    (hRR : ∀ D C h tk m' ys news', Fr h₀ L h m → News h₀ L h ((D, lst ys) :: news') → Off1 D news' → h.Ns C m' → h₀.get? C = none → h₀.get? D = none → C ≠ L → D ≠ L → C ≠ D → (∀ p ∈ news', p.1 ≠ C) → Fin ys news' → RR (.ref D) C (.ok .next) { s₂ with heap := h, toks := tk }) :
    wpAny (model prog w) A (newList []) (fun acc s₃ => wpAny (model prog w) A (newFunctionEnv scope env.globals cl [] env.qual none .none (some env)) (fun cenv s₄ =>
      codeAny (model prog w) A (.compStart (.ListComp elt [⟨.Name x px, iter, [], 0⟩] scope pos) 0 (.ref I) acc { cenv with scope := relabel scope env }) (RR acc cenv.locals) s₄) E s₃) E s₂ := by
  refine wpAny_newObj_type (newEnvC1 hcf hpc ?_)
  dsimp only
  generalize hH2 : s₂.heap.push { cls := .type "list", dict := none, data := .seq ([] : List Value).toArray } = H2
  have hC : H2.objs.size = s₂.heap.objs.size + 1 := by rw [← hH2, Heap.size_push]
  have hDC : s₂.heap.objs.size ≠ H2.objs.size := by rw [hC]; exact Nat.ne_of_lt (Nat.lt_succ_self _)
  have hKC : H2.objs.size ≠ H2.objs.size + 1 := Nat.ne_of_lt (Nat.lt_succ_self _)
  have hKD : s₂.heap.objs.size ≠ H2.objs.size + 1 := by rw [hC]; exact Nat.ne_of_lt (Nat.lt_succ_of_lt (Nat.lt_succ_self _))
  have below : ∀ b, b < s₂.heap.objs.size → b ≠ H2.objs.size ∧ b ≠ s₂.heap.objs.size ∧ b ≠ H2.objs.size + 1 := fun b hb => ⟨by rw [hC]; exact Nat.ne_of_lt (Nat.lt_succ_of_lt hb), Nat.ne_of_lt hb, by rw [hC]; exact Nat.ne_of_lt (Nat.lt_succ_of_lt (Nat.lt_succ_of_lt hb))⟩
  generalize hh1 : (H2.push { cls := .type "dict", data := .dict #[] }).push { cls := .type "cell", data := .cell none } = h₁
  have up2 : ∀ b o, H2.get? b = some o → h₁.get? b = some o := fun b o e => hh1 ▸ Heap.get?_push_of_some _ (Heap.get?_push_of_some _ e)
  have hns₁ : h₁.Ns H2.objs.size (fun _ => none) := hh1 ▸ (Heap.Ns.new H2 (.type "dict")).keeps (fun b o e => Heap.get?_push_of_some _ e)
  have hcel : h₁.get? (H2.objs.size + 1) = some { cls := .type "cell", data := .cell none } := by
    have z := Heap.get?_push_size (H2.push { cls := .type "dict", data := .dict #[] }) (o := { cls := .type "cell", data := .cell none }) rfl
    rw [Heap.size_push, hh1] at z
    exact z
  have old : ∀ b o, s₂.heap.get? b = some o → h₁.get? b = some o := fun b o e => up2 b o (hH2 ▸ Heap.get?_push_of_some _ e)
  have hacc : h₁.get? s₂.heap.objs.size = some (lst []) := up2 _ _ (hH2 ▸ Heap.get?_push_size _ rfl)
  have hst₁ : St 0 h₁ := W.frame _ _ _ hst fun b _ o e => old b o e
  have fresh : ∀ a, s₂.heap.objs.size ≤ a → s₂.heap.get? a = none := fun a ha => by
    cases e : s₂.heap.get? a with
    | none => rfl
    | some o' => exact absurd (Heap.lt_size e) (Nat.not_lt.mpr ha)
  have fresh₀ : ∀ a, s₂.heap.objs.size ≤ a → h₀.get? a = none := fun a ha => by
    cases e : h₀.get? a with
    | none => rfl
    | some o' => have := F.keep a o' e; rw [fresh a ha] at this; cases this
  have hD₀ : h₀.get? s₂.heap.objs.size = none := fresh₀ _ (Nat.le_refl _)
  have hC₀ : h₀.get? H2.objs.size = none := fresh₀ _ (by rw [hC]; exact Nat.le_succ _)
  have hK₀ : h₀.get? (H2.objs.size + 1) = none := fresh₀ _ (by rw [hC]; exact Nat.le_succ_of_le (Nat.le_succ _))
  have hLlt : L < s₂.heap.objs.size := F.ns.lt
  have hDL : s₂.heap.objs.size ≠ L := Ne.symm (below L hLlt).2.1
  have hCL : H2.objs.size ≠ L := Ne.symm (below L hLlt).1
  have hKL : H2.objs.size + 1 ≠ L := Ne.symm (below L hLlt).2.2
  have hCI : I ≠ H2.objs.size := (below I hIlt).1
  have hDI : I ≠ s₂.heap.objs.size := (below I hIlt).2.1
  have hKI : I ≠ H2.objs.size + 1 := (below I hIlt).2.2
  generalize hDe : s₂.heap.objs.size = D at *
  generalize hCe : H2.objs.size = C at *
  generalize hKe : C + 1 = K at *
  have off₀ : Off3 I C D news := Off3.of fun p hp => ⟨off p hp, (below _ (hDe ▸ Heap.lt_size (N p hp).1)).1, (below _ (hDe ▸ Heap.lt_size (N p hp).1)).2.1⟩
  have offK₀ : Off1 K news := Off1.of fun p hp => (below _ (hDe ▸ Heap.lt_size (N p hp).1)).2.2
  have loop : ∀ s₃ : Shared, s₃ = { s₂ with heap := h₁ } →
      codeAny (model prog w) A (.compLoop (.ListComp elt [⟨.Name x px, iter, [], 0⟩] scope pos) 0 (.ref I) (.ref D) (compEnvC scope ((x, K) :: cl) C env))
        (RR (.ref D) C) s₃ := by
    rintro s₃ rfl
    refine codeAny_compLoop_tests
      (fun k s' => ∃ h' tk i ys m' news' oK, s' = { s₂ with heap := h', toks := tk } ∧ i ≤ n ∧ k = n + 1 - i ∧ ys.length = i ∧ St i h' ∧ Fr h₀ L h' m ∧ h'.Ns C m' ∧ News h₀ L h' ((D, lst ys) :: (K, oK) :: news') ∧ (∃ v, oK.data = .cell v) ∧
        Off3 I C D news' ∧ Off1 K news' ∧ CompRestC prog w A h₀ L m env elt x scope cl s₂ P Fin (n - i) i ys news') ?_ (n + 1)
      ⟨h₁, _, 0, [], _, news, { cls := .type "cell", data := .cell none }, rfl, Nat.zero_le _, rfl, rfl, hst₁, F.keeps old, hns₁, fun p hp => ?_, ⟨_, rfl⟩, off₀, offK₀, R⟩
    · rintro k s' ⟨h', tk, i, ys, m', news', oK, rfl, hi, rfl, hyl, hst', F', hn', N', ⟨v₀, hv₀⟩, off', offK', R'⟩
      by_cases hlt : i < n
      · obtain ⟨j, hj⟩ : ∃ j, n - i = j + 1 := ⟨n - i - 1, by omega⟩
        rw [hj] at R'
        refine W.item i _ _ _ hlt hst' fun v h₂ tk₂ hPv hst₂ hk₂ => ?_
        have NK := N' (K, oK) (.tail _ (.head _))
        have off3 := off'.mem
        have offK := Off1.all offK'
        have hcK : h₂.IsCell K v₀ := ⟨oK, hk₂ _ _ (by simpa using Ne.symm hKI) NK.1, hv₀⟩
        refine wpAny_assign_Name (wpAny_storeName_cell (c := K) (by simpa [compEnvC, relabel] using hkind) hx (by simp [compEnvC]) hcK (fun h₃ hc₃ hs₃ => ?_))
        refine wpAny_tests_nil ?_
        simp only [if_true]
        have hst₃ : St (i + 1) h₃ := W.frame _ _ _ hst₂ fun b hb o e => hs₃.extBut b o (fun q => hKI (by rw [← List.mem_singleton.mp hb]; exact q)) e
        obtain ⟨oI, heI⟩ := hIo _ _ hst₃
        have hn₃ : h₃.Ns C m' := (hn'.at' fun o e => hk₂ _ o (by simpa using Ne.symm hCI) e).sameBut hs₃ hKC
        obtain ⟨oC, heC, hoC⟩ := ns_obj hn₃
        obtain ⟨oK', heK, hdK⟩ := hc₃
        have F₃ : Fr h₀ L h₃ m := (fr_but F' hk₂ hIL hI₀).change hs₃ hKL hK₀
        have N₂ : News h₀ L h₂ ((D, lst ys) :: news') := news_but (fun p hp => N' p ((List.mem_cons.mp hp).elim (fun e => e ▸ .head _) fun hp => .tail _ (.tail _ hp))) hk₂ fun p hp => by
          rcases List.mem_cons.mp hp with rfl | hp
          · exact Ne.symm hDI
          · exact (off3 p hp).1
        have N₃ : News h₀ L h₃ ((I, oI) :: (C, oC) :: (D, lst ys) :: (K, oK') :: news') := fun p hp => by
          rcases List.mem_cons.mp hp with rfl | hp
          · exact ⟨heI, Ne.symm hIL, hI₀⟩
          · rcases List.mem_cons.mp hp with rfl | hp
            · exact ⟨heC, hCL, hC₀⟩
            · rcases List.mem_cons.mp hp with rfl | hp
              · have z := N₂ (D, lst ys) (.head _)
                exact ⟨hs₃.extBut _ _ hKD z.1, z.2⟩
              · rcases List.mem_cons.mp hp with rfl | hp
                · exact ⟨heK, hKL, hK₀⟩
                · have z := N₂ p (.tail _ hp)
                  exact ⟨hs₃.extBut _ _ (offK p hp) z.1, z.2⟩
        refine wpAny_mono (R' v I oI C oC D K oK' m' h₃ _ _ hPv hoC hdK F₃ N₃ ⟨⟨Ne.symm hKI, Ne.symm hKC, Ne.symm hKD⟩, off'⟩ offK' ⟨hCI, hDI, Ne.symm hDC⟩) (fun y s₄ h₄ => ?_) fun _ _ e => e
        obtain ⟨h₄, tk₄, news₄, rfl, F₄, N₄, off₄, _, oK₄, news₅, rfl, hv₄, offK₄, R₄⟩ := h₄
        have zI := (N₄ (I, oI) List.mem_cons_self).1
        have zC := (N₄ (C, oC) (List.mem_cons_of_mem _ List.mem_cons_self)).1
        have zD := (N₄ (D, lst ys) (List.mem_cons_of_mem _ (List.mem_cons_of_mem _ List.mem_cons_self))).1
        have N₄' : News h₀ L h₄ ((K, oK₄) :: news₅) := fun p hp => N₄ p (List.mem_cons_of_mem _ (List.mem_cons_of_mem _ (List.mem_cons_of_mem _ hp)))
        have hst₄ : St (i + 1) h₄ := hSt _ _ _ _ _ hst₃ heI zI F₄.keep N₄' trivial
        refine append_at (hsz := by show ys.toArray.size ≤ sizeLine; rw [List.size_toArray, hyl]; exact Nat.le_trans hi hsz) zD fun h₅ hs₅ hD₅ => ?_
        have off4 := off₄.mem
        refine ⟨n + 1 - (i + 1), by omega, h₅, tk₄, i + 1, ys ++ [y], _, news₅, oK₄, rfl, hlt, rfl, by rw [List.length_append, List.length_singleton, hyl], W.frame _ _ _ hst₄ fun b hb o e => hs₅.extBut b o (fun q => hDI (by rw [← List.mem_singleton.mp hb]; exact q)) e, F₄.change hs₅ hDL hD₀,
          (hoC.ns zC).sameBut hs₅ (Ne.symm hDC), fun p hp => ?_, hv₄, off₄.2, offK₄, ?_⟩
        · rcases List.mem_cons.mp hp with rfl | hp
          · exact ⟨hD₅.trans (congrArg some (lst_snoc ys y)), hDL, hD₀⟩
          · exact ⟨hs₅.extBut _ _ (off4 p hp).2.2 (N₄' p hp).1, (N₄' p hp).2⟩
        · rw [show n - (i + 1) = j by omega]
          exact R₄
      · obtain rfl : i = n := Nat.le_antisymm hi (Nat.not_lt.mp hlt)
        rw [Nat.sub_self] at R'
        refine W.done _ _ _ hst' fun h₂ tk₂ hk₂ => ?_
        have off3 := off'.mem
        exact hRR _ _ h₂ tk₂ _ ys news' (fr_but F' hk₂ hIL hI₀) (news_but (fun p hp => N' p ((List.mem_cons.mp hp).elim (fun e => e ▸ .head _) fun hp => .tail _ (.tail _ hp))) hk₂ fun p hp => by
          rcases List.mem_cons.mp hp with rfl | hp
          · exact Ne.symm hDI
          · exact (off3 p hp).1) off'.one (hn'.at' fun o e => hk₂ _ o (by simpa using Ne.symm hCI) e) hC₀ hD₀ hCL hDL (Ne.symm hDC) (fun p hp => (off3 p hp).2.1) R'
    · rcases List.mem_cons.mp hp with rfl | hp
      · exact ⟨hacc, hDL, hD₀⟩
      · rcases List.mem_cons.mp hp with rfl | hp
        · exact ⟨hcel, hKL, hK₀⟩
        · exact ⟨old _ _ (N p hp).1, (N p hp).2⟩
  exact codeAny_compStart_list (loop _ rfl) (W.self 0 _ _ _ hst₁ (loop _ rfl))
def SrcRC (prog : Program) (w : World) (A : Around) (h₀ : Heap) (L : Addr) (m : Str → Option Value) (env : Env) (elt : PySem.Expr) (x : Str) (scope : Scope) (cl : List (Str × Addr)) (Fin : Shared → List Value → List (Addr × Obj) → Prop) (xv : Value) (s₁ : Shared) : Prop :=
  ∃ r a b t u v n news, xv = .ref r ∧ A.handled = none ∧ Fr h₀ L s₁.heap m ∧ News h₀ L s₁.heap news ∧ IsRange s₁.heap r a b 1 t u v ∧ Builtin.Range.small a b 1 = true ∧ Builtin.Range.rangeSize a b 1 = ((n : Nat) : Int) ∧ n ≤ sizeLine ∧
    ∀ s₂ : Shared, (∃ h, s₂ = { s₁ with heap := h }) → CompRestC prog w A h₀ L m env elt x scope cl s₂ (fun i v => ∃ t, v = .int (a + (i : Int)) t) (Fin s₂) n 0 [] news
theorem Assign_ListComp_C {elt iter : PySem.Expr} {x y : Str} {px py : Pos} {scope : Scope} {cl : List (Str × Addr)} {pos spos : Pos} {Q : Flow → Shared → Prop} (F₀ : Fr h₀ L s.heap m) (hLe : env.locals = L)
    (hsw : swapsWith (.ListComp elt [⟨.Name x px, iter, [], 0⟩] scope pos) (some (.Name y py)) spos.line env = pure true)
    (hclos : closureFor scope env = pure cl) (hcf : ∀ n, cellsFrom n scope.names cl = (x, n) :: cl) (hpc : ∀ h, pushCells h scope.names = h.push { cls := .type "cell", data := .cell none }) (hkind : scope.kind = .function)
    (hnames : ∀ z ∈ scope.names, z.2 = .local → scope.names.lookup z.1 = some .local) (hx : (relabel scope env).names.lookup x = some .cell)
    (hy : env.kindOf y = some .local) (hp : (env.scope.kind == .class || (env.scope.kind == .module && env.locals != env.globals)) = false)
    (h : wpAny (model prog w) A (eval iter env) (SrcRC prog w A h₀ L m env elt x scope cl (fun s₂ => FinA h₀ L m s₂ y Q)) E s)
    (hs : ∀ x, foldedSetIterable iter env x = pure x := by intro _; rfl) :
    wpAny (model prog w) A (exec (.Assign [.Name y py] (.ListComp elt [⟨.Name x px, iter, [], 0⟩] scope pos) spos) env) Q E s := by
  subst hLe
  rw [exec_Assign_Name_used _ _ _ _ hsw]
  refine wpAny_bind (wpAny_standAt (wpAny_bind ?_))
  show wpAny _ A (do let _ ← comprehension (.ListComp elt [⟨.Name x px, iter, [], 0⟩] scope pos) scope env _ (newList []) false (eval iter env) (some (assign (.Name y py) env))) _ _ s
  refine wpAny_bind (wpAny_mono (wpAny_comprehension_free (use := some (assign (.Name y py) env)) (Q := fun _ s' => Q .next s') rfl hs hclos hkind hnames
    (wpAny_mono h (fun xv s₁ h₁ => ?_) fun _ _ e => e)) (fun _ s' hq => wpAny_pure (wpAny_pure hq)) fun _ _ e => e)
  obtain ⟨r, a, b, t, u, v, n, news, rfl, hh, F, N, hr, hsm, hn, hsz, R⟩ := h₁
  refine wpAny_pyIter_range hr hsm ?_
  refine block_UC (range_walks hh a n) hsz (fun i h st => ⟨_, st⟩) range_st hcf hpc hkind hx (by show IsRangeIter _ _ _ _ _; rw [hn]; simpa using Heap.get?_push_size _ rfl)
    (by show s₁.heap.objs.size < (s₁.heap.push _).objs.size; rw [Heap.size_push]; exact Nat.lt_succ_self _)
    (F.keeps fun _ _ e => Heap.get?_push_of_some _ e) (N.grown fun _ _ e => Heap.get?_push_of_some _ e) (Nat.ne_of_lt F.ns.lt) (next_is_new F) (fun p hp => Nat.ne_of_lt (Heap.lt_size (N p hp).1)) (R _ ⟨_, rfl⟩) ?_
  intro D C h' tk m' ys news' F' N' o1 hn hC₀ hD₀ hCL hDL hCD offC fin
  show wpAny _ A (assign (.Name y py) env (.ref D)) _ _ _
  refine wpAny_assign_Name (wpAny_storeName_local hy F'.ns (fun h₂ hn₂ hs₂ => ?_) hp)
  have hL₀ : h₀.get? env.locals = none := Heap.get?_none_of_le F'.above
  have F₂ : Fr h₀ env.locals h₂ (fun z => if z = y then some (.ref D) else m z) := ⟨hn₂, fun b o e => hs₂.extBut b o (fun q => by rw [q, hL₀] at e; cases e) (F'.keep b o e), F'.above⟩
  refine ⟨m', hn.sameBut hs₂ hCL, fun h'' hs'' => fin D h'' _ (F₂.change hs'' hCL hC₀) (fun p hp => ?_) o1⟩
  have z : h₂.get? p.1 = some p.2 := hs₂.extBut _ _ (N' p hp).2.1 (N' p hp).1
  refine ⟨hs''.extBut _ _ ?_ z, (N' p hp).2⟩
  rcases List.mem_cons.mp hp with rfl | hp
  · exact Ne.symm hCD
  · exact offC p hp
theorem CompRestC.zero {elt : PySem.Expr} {x : Str} {scope : Scope} {cl : List (Str × Addr)} {P : Nat → Value → Prop} {Fin : List Value → List (Addr × Obj) → Prop} {i : Nat} {ys : List Value} {news : List (Addr × Obj)} (h : Fin ys news) :
    CompRestC prog w A h₀ L m env elt x scope cl s P Fin 0 i ys news := h
theorem CompRestC.succ {elt : PySem.Expr} {x : Str} {scope : Scope} {cl : List (Str × Addr)} {P : Nat → Value → Prop} {Fin : List Value → List (Addr × Obj) → Prop} {k i : Nat} {ys : List Value} {news : List (Addr × Obj)}
    (h : ∀ v I oI C oC D K oK m₂ h tk (E' : Value → Shared → Prop), P i v → NsObj oC m₂ → oK.data = .cell (some v) → Fr h₀ L h m → News h₀ L h ((I, oI) :: (C, oC) :: (D, lst ys) :: (K, oK) :: news) → Off3 I C D ((K, oK) :: news) → Off1 K news → ((@Ne Nat I C) ∧ (@Ne Nat I D) ∧ (@Ne Nat C D)) →
      wpAny (model prog w) A (eval elt (compEnvC scope ((x, K) :: cl) C env)) (CompEnd h₀ L m { s with heap := h, toks := tk } I oI C oC D (lst ys) (fun _ => True) (fun y news' => ∃ oK' news'', news' = (K, oK') :: news'' ∧ (∃ v, oK'.data = .cell v) ∧ Off1 K news'' ∧ CompRestC prog w A h₀ L m env elt x scope cl s P Fin k (i + 1) (ys ++ [y]) news'')) E' { s with heap := h, toks := tk }) :
    CompRestC prog w A h₀ L m env elt x scope cl s P Fin (k + 1) i ys news := h
theorem due_end {s : Shared} {h' : Heap} {tk : Nat} {RA SA D3 I C D K : Addr} {ro so o3 oI oC oD oK : Obj} {news : List (Addr × Obj)} {y : Value} {R : Value → List (Addr × Obj) → Prop}
    (F : Fr h₀ L h' m) (N : News h₀ L h' ((RA, ro) :: (SA, so) :: (D3, o3) :: (I, oI) :: (C, oC) :: (D, oD) :: (K, oK) :: news)) (lt : ∀ p ∈ (SA, so) :: (D3, o3) :: (I, oI) :: (C, oC) :: (D, oD) :: (K, oK) :: news, p.1 < RA)
    (off : Off3 I C D ((K, oK) :: news)) (offK : Off1 K news) (hK : ∃ v, oK.data = .cell v) (hr : R y ((RA, ro) :: news)) :
    CompEnd h₀ L m s I oI C oC D oD (fun _ => True) (fun y news' => ∃ oK' news'', news' = (K, oK') :: news'' ∧ (∃ v, oK'.data = .cell v) ∧ Off1 K news'' ∧ R y news'') y { s with heap := h', toks := tk } := by
  have l1 : I < RA := lt (I, oI) (.tail _ (.tail _ (.head _)))
  have l2 : C < RA := lt (C, oC) (.tail _ (.tail _ (.tail _ (.head _))))
  have l3 : D < RA := lt (D, oD) (.tail _ (.tail _ (.tail _ (.tail _ (.head _)))))
  have l4 : K < RA := lt (K, oK) (.tail _ (.tail _ (.tail _ (.tail _ (.tail _ (.head _))))))
  refine CompEnd.intro F N ((K, oK) :: (RA, ro) :: news) (fun p hp => ?_) ⟨off.1, ⟨Nat.ne_of_gt l1, Nat.ne_of_gt l2, Nat.ne_of_gt l3⟩, off.2⟩ trivial ⟨oK, _, rfl, hK, ⟨Nat.ne_of_gt l4, offK⟩, hr⟩
  simp only [List.mem_cons] at hp ⊢
  rcases hp with h | h | h | h | h | h
  · exact .inr (.inr (.inr (.inl h)))
  · exact .inr (.inr (.inr (.inr (.inl h))))
  · exact .inr (.inr (.inr (.inr (.inr (.inl h)))))
  · exact .inr (.inr (.inr (.inr (.inr (.inr (.inl h))))))
  · exact .inl h
  · exact .inr (.inr (.inr (.inr (.inr (.inr (.inr h))))))
end
end Mine
end
section
open PySem PySem.W PyProof.Rows
namespace Mine
-- Plain
theorem mem_rk {a v : Int} {n : Nat} : v ∈ rangeKs a n ↔ a ≤ v ∧ v < a + (n : Int) := by
  refine ⟨mem_rangeKs, fun h => ?_⟩
  unfold rangeKs
  exact List.mem_map.mpr ⟨(v - a).toNat, List.mem_range.mpr (by omega), by omega⟩
theorem mem_rk2 {a b v : Int} : v ∈ rangeKs a (b + 1 - a).toNat ↔ a ≤ v ∧ v ≤ b := by
  rw [mem_rk]; omega
theorem rk_sorted (a : Int) (n : Nat) : (rangeKs a n).Pairwise (· < ·) := by
  unfold rangeKs
  rw [List.pairwise_map]
  exact List.pairwise_lt_range.imp fun h => by omega
/-- the rest that the law finds -/
def remV (x y : Int) : Int := sgn x (absV x % absV y)
theorem absV_nn (x : Int) : 0 ≤ absV x := by unfold absV; split <;> omega
theorem remV_lt {x y : Int} (h : y ≠ 0) : absV (remV x y) < absV y := by
  have h1 : 0 < absV y := by unfold absV; split <;> omega
  have h2 := Int.emod_nonneg (absV x) (Int.ne_of_gt h1)
  have h3 := Int.emod_lt_of_pos (absV x) h1
  unfold remV sgn
  generalize absV x % absV y = r at *
  split <;> (conv => lhs; unfold absV) <;> split <;> omega
theorem remV_far {x y : Int} (h : absV x < absV y) : remV x y = x := by
  unfold remV
  rw [Int.emod_eq_of_lt (absV_nn x) h]
  unfold sgn absV; split <;> omega
theorem trunc_rem {v y : Int} (hy : y ≠ 0) : v - y * truncV v y = remV v y := by
  have h1 : 0 < absV y := by unfold absV; split <;> omega
  have e : ∀ a b : Int, a.fdiv b = a.fdiv b := fun _ _ => rfl
  have hd : (absV v).fdiv (absV y) = absV v / absV y := Int.fdiv_eq_ediv_of_nonneg _ (Int.le_of_lt h1)
  have hq := Int.emod_add_mul_ediv (absV v) (absV y)
  unfold truncV remV sgn
  change v - y * (if decide (v < 0) == decide (y < 0) then (absV v).fdiv (absV y) else -(absV v).fdiv (absV y)) = _
  rw [hd]
  generalize absV v / absV y = q at *
  generalize absV v % absV y = r at *
  by_cases a1 : v < 0 <;> by_cases a2 : y < 0
  · have b1 : absV v = -v := if_pos a1
    have b2 : absV y = -y := if_pos a2
    rw [b1, b2, Int.neg_mul] at hq
    simp [a1, a2]; omega
  · have b1 : absV v = -v := if_pos a1
    have b2 : absV y = y := if_neg a2
    rw [b1, b2] at hq
    simp [a1, a2, Int.mul_neg]; omega
  · have b1 : absV v = v := if_neg a1
    have b2 : absV y = -y := if_pos a2
    rw [b1, b2, Int.neg_mul] at hq
    simp [a1, a2, Int.mul_neg]; omega
  · have b1 : absV v = v := if_neg a1
    have b2 : absV y = y := if_neg a2
    rw [b1, b2] at hq
    simp [a1, a2]; omega
theorem emod_le' {a m : Int} (ha : 0 ≤ a) (hm : 0 < m) : a % m ≤ a := by
  have h1 := Int.emod_add_mul_ediv a m
  have h2 := Int.mul_nonneg (Int.le_of_lt hm) (Int.ediv_nonneg ha (Int.le_of_lt hm))
  omega
theorem absV_or (x : Int) : (0 ≤ x ∧ absV x = x) ∨ (x < 0 ∧ absV x = -x) := by
  by_cases h : x < 0
  · exact .inr ⟨h, if_pos h⟩
  · exact .inl ⟨Int.not_lt.mp h, if_neg h⟩
theorem sgn_or (x r : Int) : (0 ≤ x ∧ sgn x r = r) ∨ (x < 0 ∧ sgn x r = 0 - r) := by
  by_cases h : x < 0
  · exact .inr ⟨h, if_pos h⟩
  · exact .inl ⟨Int.not_lt.mp h, if_neg h⟩
theorem neg_emod0 {x m : Int} (h : x % m = 0) : (-x) % m = 0 :=
  Int.emod_eq_zero_of_dvd (Int.dvd_neg.mpr (Int.dvd_of_emod_eq_zero h))
theorem sgn_of_emod {x m z : Int} (h : x % m = z) (hp : 0 ≤ x ∨ z = 0) : sgn x (absV x % m) = z := by
  rcases absV_or x with ⟨hx, e⟩ | ⟨hx, e⟩
  · rw [e, h]; exact if_neg (Int.not_lt.mpr hx)
  · rcases hp with hp | rfl
    · exact absurd hx (Int.not_lt.mpr hp)
    · rw [e, neg_emod0 h]; exact if_pos hx
theorem emod_of_sgn {x m z : Int} (h0 : 0 < m) (hz : 0 ≤ z) (h : sgn x (absV x % m) = z) : x % m = z ∧ (0 < z → z ≤ x) := by
  rcases absV_or x with ⟨hx, e⟩ | ⟨hx, e⟩
  · rw [e] at h
    have h' : x % m = z := (if_neg (Int.not_lt.mpr hx) : sgn x (x % m) = x % m).symm.trans h
    exact ⟨h', fun _ => h' ▸ emod_le' hx h0⟩
  · rw [e] at h
    have h' : 0 - (-x) % m = z := (if_pos hx : sgn x ((-x) % m) = 0 - (-x) % m).symm.trans h
    have h1 := Int.emod_nonneg (-x) (Int.ne_of_gt h0)
    have h2 : (-x) % m = 0 := by omega
    have h3 := neg_emod0 h2
    rw [Int.neg_neg] at h3
    rw [h2] at h'
    exact ⟨h3.trans h', fun q => absurd q (by rw [← h']; decide)⟩
theorem hasP_iff {lo hi m z : Int} (h0 : 0 < m) (hz : 0 ≤ z) (hm : z < m) : hasP lo hi m z = true ↔ ∃ x, lo ≤ x ∧ x ≤ hi ∧ sgn x (absV x % m) = z := by
  unfold hasP
  rw [decide_eq_true_eq, Int.fmod_eq_emod_of_nonneg _ (Int.le_of_lt h0)]
  have hf : lo ≤ (if 0 < z then if z > lo then z else lo else lo) ∧ (0 < z → z ≤ (if 0 < z then if z > lo then z else lo else lo)) ∧ ∀ x, lo ≤ x → (0 < z → z ≤ x) → (if 0 < z then if z > lo then z else lo else lo) ≤ x := by
    by_cases q : 0 < z
    · rw [if_pos q]
      by_cases q2 : z > lo
      · rw [if_pos q2]; exact ⟨Int.le_of_lt q2, fun _ => Int.le_refl _, fun x _ h => h q⟩
      · rw [if_neg q2]; exact ⟨Int.le_refl _, fun _ => Int.not_lt.mp q2, fun x h _ => h⟩
    · rw [if_neg q]; exact ⟨Int.le_refl _, fun h => absurd h q, fun x h _ => h⟩
  generalize (if 0 < z then if z > lo then z else lo else lo) = f at hf ⊢
  obtain ⟨f1, f2, f3⟩ := hf
  have r0 := Int.emod_nonneg (z - f) (Int.ne_of_gt h0)
  constructor
  · intro h
    refine ⟨f + (z - f) % m, Int.le_trans f1 (Int.le_add_of_nonneg_right r0), h, sgn_of_emod ?_ ?_⟩
    · rw [Int.add_emod_emod, show f + (z - f) = z by omega, Int.emod_eq_of_lt hz hm]
    · rcases Int.lt_or_eq_of_le hz with q | q
      · exact .inl (Int.add_nonneg (Int.le_trans hz (f2 q)) r0)
      · exact .inr q.symm
  · rintro ⟨x, hx1, hx2, hx3⟩
    obtain ⟨e, g⟩ := emod_of_sgn h0 hz hx3
    have hfx := f3 x hx1 g
    rw [← e, Int.emod_sub_emod]
    have := emod_le' (Int.sub_nonneg_of_le hfx) h0
    omega
theorem sgn_neg (x r : Int) (h : x = 0 → r = 0) : sgn (-x) r = - sgn x r := by
  unfold sgn; split <;> split <;> omega
theorem absV_neg (x : Int) : absV (-x) = absV x := by unfold absV; split <;> split <;> omega
theorem has_iff {x0 x1 m z : Int} (h0 : 0 < m) (hz : absV z < m) : hasV x0 x1 m z = true ↔ ∃ x, x0 ≤ x ∧ x ≤ x1 ∧ sgn x (absV x % m) = z := by
  have flip : ∀ x, sgn (-x) (absV (-x) % m) = - sgn x (absV x % m) := fun x => by
    rw [absV_neg]; exact sgn_neg x _ (by rintro rfl; simp [absV])
  unfold hasV
  rcases absV_or z with ⟨hn, e⟩ | ⟨hn, e⟩
  · rw [e] at hz
    rw [if_neg (Int.not_lt.mpr hn)]
    exact hasP_iff h0 hn hz
  · rw [e] at hz
    rw [if_pos hn, hasP_iff h0 (Int.neg_nonneg_of_nonpos (Int.le_of_lt hn)) hz]
    constructor
    · rintro ⟨x, a, b, c⟩; exact ⟨-x, Int.le_neg_of_le_neg b, Int.neg_le_of_neg_le a, by rw [flip, c, Int.neg_neg]⟩
    · rintro ⟨x, a, b, c⟩; exact ⟨-x, Int.neg_le_neg b, Int.neg_le_neg a, by rw [flip, c]⟩
theorem sizeV_or (x0 x1 : Int) : absV x0 ≤ sizeV x0 x1 ∧ absV x1 ≤ sizeV x0 x1 := by
  unfold sizeV; split <;> omega
theorem sizeV_nn (x0 x1 : Int) : 0 ≤ sizeV x0 x1 := Int.le_trans (absV_nn x0) (sizeV_or x0 x1).1
theorem sizeV_le {x0 x1 v : Int} (h0 : x0 ≤ v) (h1 : v ≤ x1) : absV v ≤ sizeV x0 x1 := by
  obtain ⟨a, b⟩ := sizeV_or x0 x1
  rcases absV_or v with ⟨_, e⟩ | ⟨_, e⟩
  · rcases absV_or x1 with ⟨_, g⟩ | ⟨_, g⟩ <;> omega
  · rcases absV_or x0 with ⟨_, g⟩ | ⟨_, g⟩ <;> omega
theorem firstV_or (x0 x1 y0 : Int) : (firstV x0 x1 y0 = y0 ∨ firstV x0 x1 y0 = -(sizeV x0 x1 + 1)) ∧ y0 ≤ firstV x0 x1 y0 ∧ -(sizeV x0 x1 + 1) ≤ firstV x0 x1 y0 := by
  unfold firstV
  generalize -(sizeV x0 x1 + 1) = a
  split <;> omega
theorem lastV_or (x0 x1 y1 : Int) : (lastV x0 x1 y1 = y1 ∨ lastV x0 x1 y1 = sizeV x0 x1 + 1) ∧ lastV x0 x1 y1 ≤ y1 ∧ lastV x0 x1 y1 ≤ sizeV x0 x1 + 1 := by
  unfold lastV
  generalize sizeV x0 x1 + 1 = a
  split <;> omega
theorem divL_sub {x0 x1 y0 y1 y : Int} (hy : y0 ≤ y1) (h : y ∈ divL x0 x1 y0 y1) : y0 ≤ y ∧ y ≤ y1 ∧ y ≠ 0 := by
  have hs := sizeV_nn x0 x1
  have hf := firstV_or x0 x1 y0
  have hl := lastV_or x0 x1 y1
  unfold divL at h
  generalize sizeV x0 x1 = f at *
  generalize firstV x0 x1 y0 = a at *
  generalize lastV x0 x1 y1 = b at *
  by_cases hab : b < a
  · rw [if_pos hab, List.mem_singleton] at h
    by_cases q : 0 < y0
    · rw [if_pos q] at h; subst h; exact ⟨Int.le_refl _, hy, Int.ne_of_gt q⟩
    · rw [if_neg q] at h; subst h; exact ⟨hy, Int.le_refl _, by omega⟩
  · rw [if_neg hab] at h
    simp only [List.map_id', List.mem_filter, decide_eq_true_eq, mem_rk2] at h
    exact ⟨Int.le_trans hf.2.1 h.1.1, Int.le_trans h.1.2 hl.2.1, h.2⟩
theorem divL_rep {x0 x1 y0 y1 y : Int} (h0 : y0 ≤ y) (h1 : y ≤ y1) (hn : y ≠ 0) : ∃ y' ∈ divL x0 x1 y0 y1, ∀ x, x0 ≤ x → x ≤ x1 → remV x y' = remV x y := by
  have hs : ∀ x, x0 ≤ x → x ≤ x1 → absV x ≤ sizeV x0 x1 := fun x a b => sizeV_le a b
  have hs0 := sizeV_nn x0 x1
  have hf := firstV_or x0 x1 y0
  have hl := lastV_or x0 x1 y1
  unfold divL
  generalize sizeV x0 x1 = f at *
  generalize firstV x0 x1 y0 = a at *
  generalize lastV x0 x1 y1 = b at *
  by_cases hy : a ≤ y ∧ y ≤ b
  · refine ⟨y, ?_, fun _ _ _ => rfl⟩
    rw [if_neg (Int.not_lt.mpr (Int.le_trans hy.1 hy.2))]
    simp only [List.map_id', List.mem_filter, decide_eq_true_eq, mem_rk2]
    exact ⟨hy, hn⟩
  · have hya : f < absV y := by rcases absV_or y with ⟨_, e⟩ | ⟨_, e⟩ <;> omega
    suffices hh : ∃ y' ∈ (if b < a then [if 0 < y0 then y0 else y1] else ((rangeKs a (b + 1 - a).toNat).filter fun y => decide (y ≠ 0)).map fun y => y), f < absV y' by
      obtain ⟨y', a, b⟩ := hh
      exact ⟨y', a, fun x c d => by rw [remV_far (Int.lt_of_le_of_lt (hs x c d) b), remV_far (Int.lt_of_le_of_lt (hs x c d) hya)]⟩
    by_cases hab : b < a
    · rw [if_pos hab]
      refine ⟨_, List.mem_singleton.mpr rfl, ?_⟩
      by_cases q : 0 < y0
      · rw [if_pos q]; rcases absV_or y0 with ⟨_, e⟩ | ⟨_, e⟩ <;> omega
      · rw [if_neg q]; rcases absV_or y1 with ⟨_, e⟩ | ⟨_, e⟩ <;> omega
    · rw [if_neg hab]
      simp only [List.map_id', List.mem_filter, decide_eq_true_eq, mem_rk2]
      by_cases q : y < a
      · exact ⟨a, ⟨⟨Int.le_refl _, Int.not_lt.mp hab⟩, by omega⟩, by rcases absV_or a with ⟨_, e⟩ | ⟨_, e⟩ <;> omega⟩
      · exact ⟨b, ⟨⟨Int.not_lt.mp hab, Int.le_refl _⟩, by omega⟩, by rcases absV_or b with ⟨_, e⟩ | ⟨_, e⟩ <;> omega⟩
theorem ne_nil_filter {α : Type} [DecidableEq α] {l : List α} {p : α → Bool} : (! decide (((l.filter p).map fun y => y) = [])) = true ↔ ∃ y ∈ l, p y = true := by
  simp only [List.map_id', Bool.not_eq_true', decide_eq_false_iff_not]
  constructor
  · intro h
    obtain ⟨a, ha⟩ := List.exists_mem_of_ne_nil _ h
    exact ⟨a, List.mem_filter.mp ha⟩
  · rintro ⟨y, a, b⟩ h
    have := List.mem_filter.mpr ⟨a, b⟩
    rw [h] at this; cases this
theorem can0_iff {x0 x1 y0 y1 z0 z1 v : Int} (hy : y0 ≤ y1) (h0 : x0 ≤ v) (h1 : v ≤ x1) : can0 x0 x1 y0 y1 z0 z1 v = true ↔ ∃ y, (y0 ≤ y ∧ y ≤ y1) ∧ y ≠ 0 ∧ z0 ≤ remV v y ∧ remV v y ≤ z1 := by
  unfold can0
  rw [ne_nil_filter]
  simp only [List.mem_map, Bool.and_eq_true, decide_eq_true_eq]
  constructor
  · rintro ⟨z, ⟨y, hy2, rfl⟩, hz⟩
    obtain ⟨a, b, c⟩ := divL_sub hy hy2
    rw [trunc_rem c] at hz
    exact ⟨y, ⟨a, b⟩, c, hz⟩
  · rintro ⟨y, ⟨a, b⟩, c, d⟩
    obtain ⟨y', e, f⟩ := divL_rep (x0 := x0) (x1 := x1) a b c
    refine ⟨_, ⟨y', e, rfl⟩, ?_⟩
    rw [trunc_rem (divL_sub hy e).2.2, f v h0 h1]
    exact d
theorem can2_iff {x0 x1 y0 y1 z : Int} (hy0 : -12 ≤ y0) (hy1 : y1 ≤ 12) (hy : y0 ≤ y1) : can2 x0 x1 y0 y1 z = true ↔ ∃ x y, (x0 ≤ x ∧ x ≤ x1) ∧ (y0 ≤ y ∧ y ≤ y1) ∧ y ≠ 0 ∧ remV x y = z := by
  unfold can2 ableL
  rw [ne_nil_filter]
  simp only [List.map_id', List.mem_filter, decide_eq_true_eq]
  constructor
  · rintro ⟨y, ⟨hy2, hlt⟩, hz⟩
    obtain ⟨a, b, c⟩ := divL_sub hy hy2
    have hm : 0 < absV y ∧ absV y ≤ 12 := by unfold absV; split <;> omega
    rw [has_iff hm.1 hlt] at hz
    obtain ⟨x, d, e, f⟩ := hz
    exact ⟨x, y, ⟨d, e⟩, ⟨a, b⟩, c, f⟩
  · rintro ⟨x, y, ⟨d, e⟩, ⟨a, b⟩, c, f⟩
    obtain ⟨y', g, h⟩ := divL_rep (x0 := x0) (x1 := x1) a b c
    obtain ⟨a', b', c'⟩ := divL_sub hy g
    have e2 : remV x y' = z := by rw [h x d e, f]
    have hlt : absV z < absV y' := by rw [← e2]; exact remV_lt c'
    have hm : 0 < absV y' ∧ absV y' ≤ 12 := by unfold absV; split <;> omega
    refine ⟨y', ⟨g, hlt⟩, ?_⟩
    rw [has_iff hm.1 hlt]
    exact ⟨x, d, e, e2⟩
theorem remV_side {x y : Int} : (0 ≤ x → 0 ≤ remV x y ∧ remV x y ≤ x) ∧ (x ≤ 0 → remV x y ≤ 0 ∧ x ≤ remV x y) := by
  have h1 : 0 ≤ absV x % absV y ∧ absV x % absV y ≤ absV x := by
    by_cases hy : absV y = 0
    · rw [hy, Int.emod_zero]; exact ⟨absV_nn x, Int.le_refl _⟩
    · exact ⟨Int.emod_nonneg _ hy, emod_le' (absV_nn x) (by have := absV_nn y; omega)⟩
  have h2 : x < 0 → absV x = -x := fun h => if_pos h
  have h3 : ¬ x < 0 → absV x = x := fun h => if_neg h
  unfold remV sgn
  constructor <;> intro h <;> split <;> omega
theorem can1_iff {x0 x1 z0 z1 y : Int} (hy0 : -12 ≤ y) (hy1 : y ≤ 12) : can1 x0 x1 z0 z1 y = true ↔ y ≠ 0 ∧ ∃ x, (x0 ≤ x ∧ x ≤ x1) ∧ z0 ≤ remV x y ∧ remV x y ≤ z1 := by
  unfold can1
  rw [ne_nil_filter]
  simp only [mem_rk2, lo1, hi1, mx3_le, le_mn3]
  by_cases hy : y = 0
  · subst hy
    simp only [absV]
    constructor
    · rintro ⟨z, a, b⟩; simp at a; omega
    · rintro ⟨a, b⟩; exact absurd rfl a
  · have hm : 0 < absV y ∧ absV y ≤ 12 := by unfold absV; split <;> omega
    constructor
    · rintro ⟨z, ⟨⟨a1, a2, a3⟩, b1, b2, b3⟩, hz⟩
      rw [has_iff hm.1 (by unfold absV at a2 b2 ⊢; split <;> omega)] at hz
      obtain ⟨x, d, e, f⟩ := hz
      have f' : remV x y = z := f
      exact ⟨hy, x, ⟨d, e⟩, by omega, by omega⟩
    · rintro ⟨_, x, ⟨d, e⟩, a, b⟩
      have hlt := remV_lt (x := x) hy
      have hsd := remV_side (x := x) (y := y)
      refine ⟨remV x y, ⟨⟨a, ?_, ?_⟩, b, ?_, ?_⟩, ?_⟩
      · generalize remV x y = r at *
        rw [show absV r = if r < 0 then -r else r from rfl] at hlt
        split at hlt <;> omega
      · split <;> omega
      · generalize remV x y = r at *
        rw [show absV r = if r < 0 then -r else r from rfl] at hlt
        split at hlt <;> omega
      · split <;> omega
      · rw [has_iff hm.1 hlt]
        exact ⟨x, d, e, rfl⟩
theorem pick_shown {x y : Int} (hx : absV x ≤ 9) : pickL (shownL y) (absV x).toNat = if y ≠ 0 then [absV x % absV y] else [] := by
  have hx0 := absV_nn x
  unfold pickL shownL
  split
  · have h : (absV x).toNat < 10 := by omega
    rw [List.take_one, List.head?_drop]
    unfold clockL rangeKs
    rw [List.getElem?_map, List.getElem?_map, List.getElem?_range h]
    simp [Int.toNat_of_nonneg hx0]
  · simp
theorem mem_trips {x0 x1 y0 y1 z0 z1 : Int} (hx0 : -9 ≤ x0) (hx1 : x1 ≤ 9) {t : Int × Int × Int} : t ∈ tripsL x0 x1 y0 y1 z0 z1 ↔ (x0 ≤ t.1 ∧ t.1 ≤ x1) ∧ (y0 ≤ t.2.1 ∧ t.2.1 ≤ y1) ∧ t.2.1 ≠ 0 ∧ (z0 ≤ t.2.2 ∧ t.2.2 ≤ z1) ∧ t.2.2 = remV t.1 t.2.1 := by
  obtain ⟨x, y, z⟩ := t
  unfold tripsL tripY
  simp only [List.mem_flatMap, mem_rk2]
  constructor
  · rintro ⟨y', ⟨a, b⟩, x', ⟨c, d⟩, h⟩
    have hx : absV x' ≤ 9 := by unfold absV; split <;> omega
    unfold tripX at h
    rw [pick_shown hx] at h
    simp only [List.mem_flatMap] at h
    obtain ⟨r, hr, h⟩ := h
    split at hr
    · rename_i hn
      rw [List.mem_singleton] at hr
      subst hr
      unfold tripR at h
      split at h
      · rename_i hz
        rw [List.mem_singleton] at h
        cases h
        exact ⟨⟨c, d⟩, ⟨a, b⟩, hn, hz, rfl⟩
      · cases h
    · cases hr
  · rintro ⟨⟨c, d⟩, ⟨a, b⟩, hn, hz, e⟩
    (try dsimp only at c d a b hn hz e)
    have hx : absV x ≤ 9 := by unfold absV; split <;> omega
    refine ⟨y, ⟨a, b⟩, x, ⟨c, d⟩, ?_⟩
    unfold tripX
    rw [pick_shown hx, if_pos hn]
    simp only [List.mem_flatMap, List.mem_singleton, exists_eq_left]
    unfold tripR
    rw [e] at hz ⊢
    rw [if_pos (by exact hz)]
    exact List.mem_singleton.mpr rfl
theorem row_sorted {a : Int} {n : Nat} {p : Int → Bool} : (((rangeKs a n).filter p).map fun v => v).Pairwise (· < ·) := by
  rw [List.map_id']
  exact (rk_sorted a n).sublist List.filter_sublist
section
variable {x0 x1 y0 y1 z0 z1 : Int} (hx0 : -9 ≤ x0) (hx1 : x1 ≤ 9) (hy0 : -12 ≤ y0) (hy1 : y1 ≤ 12) (hy : y0 ≤ y1)
include hx0 hx1 hy0 hy1 hy
theorem row0_mem (v : Int) : v ∈ row0 x0 x1 y0 y1 z0 z1 ↔ v ∈ (tripsL x0 x1 y0 y1 z0 z1).map fun t => t.1 := by
  unfold row0
  simp only [List.map_id', List.mem_filter, List.mem_map, mem_rk2, mem_trips hx0 hx1]
  constructor
  · rintro ⟨⟨a, b⟩, c⟩
    rw [can0_iff hy a b] at c
    obtain ⟨y, d, e, f⟩ := c
    exact ⟨(v, y, remV v y), ⟨⟨a, b⟩, d, e, f, rfl⟩, rfl⟩
  · rintro ⟨⟨x, y, z⟩, ⟨⟨a, b⟩, d, e, f, g⟩, rfl⟩
    refine ⟨⟨a, b⟩, (can0_iff hy a b).mpr ⟨y, d, e, ?_⟩⟩
    (try dsimp only at g f)
    rw [← g]; exact f
theorem row1_mem (v : Int) : v ∈ row1 x0 x1 y0 y1 z0 z1 ↔ v ∈ (tripsL x0 x1 y0 y1 z0 z1).map fun t => t.2.1 := by
  unfold row1
  simp only [List.map_id', List.mem_filter, List.mem_map, mem_rk2, mem_trips hx0 hx1]
  constructor
  · rintro ⟨⟨a, b⟩, c⟩
    rw [can1_iff (by omega) (by omega)] at c
    obtain ⟨e, x, d, f⟩ := c
    exact ⟨(x, v, remV x v), ⟨d, ⟨a, b⟩, e, f, rfl⟩, rfl⟩
  · rintro ⟨⟨x, y, z⟩, ⟨d, ⟨a, b⟩, e, f, g⟩, rfl⟩
    have a' : y0 ≤ y := a
    have b' : y ≤ y1 := b
    (try dsimp only at d e f g)
    refine ⟨⟨a, b⟩, (can1_iff (y := y) (by omega) (by omega)).mpr ⟨e, x, d, ?_⟩⟩
    rw [← g]; exact f
theorem row2_mem (v : Int) : v ∈ row2 x0 x1 y0 y1 z0 z1 ↔ v ∈ (tripsL x0 x1 y0 y1 z0 z1).map fun t => t.2.2 := by
  unfold row2
  simp only [List.map_id', List.mem_filter, List.mem_map, mem_rk2, mem_trips hx0 hx1]
  constructor
  · rintro ⟨⟨a, b⟩, c⟩
    rw [can2_iff hy0 hy1 hy] at c
    obtain ⟨x, y, d, e, f, g⟩ := c
    exact ⟨(x, y, v), ⟨d, e, f, ⟨a, b⟩, g.symm⟩, rfl⟩
  · rintro ⟨⟨x, y, z⟩, ⟨d, e, f, ab, g⟩, rfl⟩
    exact ⟨ab, (can2_iff hy0 hy1 hy).mpr ⟨x, y, d, e, f, g.symm⟩⟩
/-- the rows that the rule tells are those of the law's triples -/
theorem due0 {ns : List Int} (h : SD ns ((tripsL x0 x1 y0 y1 z0 z1).map fun t => t.1)) : ns = row0 x0 x1 y0 y1 z0 z1 :=
  sd_unique h.1 row_sorted fun v => (h.2 v).trans (row0_mem hx0 hx1 hy0 hy1 hy v).symm
theorem due1 {ns : List Int} (h : SD ns ((tripsL x0 x1 y0 y1 z0 z1).map fun t => t.2.1)) : ns = row1 x0 x1 y0 y1 z0 z1 :=
  sd_unique h.1 row_sorted fun v => (h.2 v).trans (row1_mem hx0 hx1 hy0 hy1 hy v).symm
theorem due2 {ns : List Int} (h : SD ns ((tripsL x0 x1 y0 y1 z0 z1).map fun t => t.2.2)) : ns = row2 x0 x1 y0 y1 z0 z1 :=
  sd_unique h.1 row_sorted fun v => (h.2 v).trans (row2_mem hx0 hx1 hy0 hy1 hy v).symm
end
/-- the first and the last of a rising list -/
theorem ends_mem {ns ts : List Int} (h : SD ns ts) (hn : ts ≠ []) : ∃ a b, ns.head? = some a ∧ ns.getLast? = some b ∧ a ≤ b ∧ a ∈ ts ∧ b ∈ ts ∧ ∀ v ∈ ts, a ≤ v ∧ v ≤ b := by
  have hne : ns ≠ [] := by
    rintro rfl
    obtain ⟨v, hv⟩ := List.exists_mem_of_ne_nil _ hn
    have := (h.2 v).mpr hv
    cases this
  have hl : ∀ (l : List Int), l.Pairwise (· < ·) → ∀ (q : l ≠ []), ∀ v ∈ l, l.head q ≤ v ∧ v ≤ l.getLast q := by
    intro l
    induction l with
    | nil => intro _ q; exact absurd rfl q
    | cons x r ih =>
      intro hp q v hv
      obtain ⟨h1, h2⟩ := List.pairwise_cons.mp hp
      by_cases hr : r = []
      · subst hr
        rw [List.mem_singleton] at hv
        subst hv
        exact ⟨Int.le_refl _, Int.le_refl _⟩
      · rw [List.getLast_cons hr]
        have hm := h1 _ (List.getLast_mem hr)
        rcases List.mem_cons.mp hv with rfl | hv
        · exact ⟨Int.le_refl _, Int.le_of_lt hm⟩
        · exact ⟨Int.le_of_lt (h1 v hv), (ih h2 hr v hv).2⟩
  refine ⟨ns.head hne, ns.getLast hne, List.head?_eq_some_head hne, List.getLast?_eq_some_getLast hne, (hl ns h.1 hne _ (List.getLast_mem hne)).1, (h.2 _).mp (List.head_mem hne), (h.2 _).mp (List.getLast_mem hne), fun v hv => hl ns h.1 hne v ((h.2 v).mpr hv)⟩
/-- a box cut to what was told has the same triples -/
theorem cut_trips {x0 x1 y0 y1 z0 z1 a0 a1 b0 b1 c0 c1 : Int} (hx0 : -9 ≤ x0) (hx1 : x1 ≤ 9) (ha : x0 ≤ a0 ∧ a1 ≤ x1) (hb : y0 ≤ b0 ∧ b1 ≤ y1) (hc : z0 ≤ c0 ∧ c1 ≤ z1)
    (h : ∀ t ∈ tripsL x0 x1 y0 y1 z0 z1, (a0 ≤ t.1 ∧ t.1 ≤ a1) ∧ (b0 ≤ t.2.1 ∧ t.2.1 ≤ b1) ∧ (c0 ≤ t.2.2 ∧ t.2.2 ≤ c1)) (t : Int × Int × Int) :
    t ∈ tripsL a0 a1 b0 b1 c0 c1 ↔ t ∈ tripsL x0 x1 y0 y1 z0 z1 := by
  rw [mem_trips (by omega) (by omega)]
  constructor
  · rintro ⟨a, b, c, d, e⟩
    rw [mem_trips hx0 hx1]
    exact ⟨by omega, by omega, c, by omega, e⟩
  · intro q
    have := h t q
    rw [mem_trips hx0 hx1] at q
    exact ⟨this.1, this.2.1, q.2.2.1, this.2.2, q.2.2.2.2⟩
/-- what the cut box's ends are -/
structure Cut (x0 x1 y0 y1 z0 z1 : Int) (n0 n1 n2 : List Int) (a0 a1 b0 b1 c0 c1 : Int) : Prop where
  e0 : n0.head? = some a0
  e1 : n0.getLast? = some a1
  e2 : n1.head? = some b0
  e3 : n1.getLast? = some b1
  e4 : n2.head? = some c0
  e5 : n2.getLast? = some c1
  hx : -9 ≤ a0 ∧ a1 ≤ 9 ∧ a0 ≤ a1
  hy : -12 ≤ b0 ∧ b1 ≤ 12 ∧ b0 ≤ b1
  hz : -20 ≤ c0 ∧ c1 ≤ 20 ∧ c0 ≤ c1
  r0 : row0 a0 a1 b0 b1 c0 c1 = n0
  r1 : row1 a0 a1 b0 b1 c0 c1 = n1
  r2 : row2 a0 a1 b0 b1 c0 c1 = n2
theorem SD.of_eq {ns a b : List Int} (h : SD ns a) (e : ∀ x, x ∈ a ↔ x ∈ b) : SD ns b := ⟨h.1, fun x => (h.2 x).trans (e x)⟩
theorem cut_of {x0 x1 y0 y1 z0 z1 : Int} {n0 n1 n2 : List Int} (hx : -9 ≤ x0 ∧ x1 ≤ 9 ∧ x0 ≤ x1) (hy : -12 ≤ y0 ∧ y1 ≤ 12 ∧ y0 ≤ y1) (hz : -20 ≤ z0 ∧ z1 ≤ 20 ∧ z0 ≤ z1)
    (h0 : SD n0 ((tripsL x0 x1 y0 y1 z0 z1).map fun t => t.1)) (h1 : SD n1 ((tripsL x0 x1 y0 y1 z0 z1).map fun t => t.2.1)) (h2 : SD n2 ((tripsL x0 x1 y0 y1 z0 z1).map fun t => t.2.2)) (hne : tripsL x0 x1 y0 y1 z0 z1 ≠ []) :
    ∃ a0 a1 b0 b1 c0 c1, Cut x0 x1 y0 y1 z0 z1 n0 n1 n2 a0 a1 b0 b1 c0 c1 := by
  have nn : ∀ f : Int × Int × Int → Int, (tripsL x0 x1 y0 y1 z0 z1).map f ≠ [] := fun f q => hne (List.map_eq_nil_iff.mp q)
  obtain ⟨a0, a1, e0, e1, la, ma0, ma1, ba⟩ := ends_mem h0 (nn _)
  obtain ⟨b0, b1, e2, e3, lb, mb0, mb1, bb⟩ := ends_mem h1 (nn _)
  obtain ⟨c0, c1, e4, e5, lc, mc0, mc1, bc⟩ := ends_mem h2 (nn _)
  have A : ∀ a ∈ (tripsL x0 x1 y0 y1 z0 z1).map (fun t => t.1), x0 ≤ a ∧ a ≤ x1 := fun a h => by
    obtain ⟨t, ht, rfl⟩ := List.mem_map.mp h
    exact ((mem_trips hx.1 hx.2.1).mp ht).1
  have B : ∀ a ∈ (tripsL x0 x1 y0 y1 z0 z1).map (fun t => t.2.1), y0 ≤ a ∧ a ≤ y1 := fun a h => by
    obtain ⟨t, ht, rfl⟩ := List.mem_map.mp h
    exact ((mem_trips hx.1 hx.2.1).mp ht).2.1
  have C : ∀ a ∈ (tripsL x0 x1 y0 y1 z0 z1).map (fun t => t.2.2), z0 ≤ a ∧ a ≤ z1 := fun a h => by
    obtain ⟨t, ht, rfl⟩ := List.mem_map.mp h
    exact ((mem_trips hx.1 hx.2.1).mp ht).2.2.2.1
  have a0' := A _ ma0
  have a1' := A _ ma1
  have b0' := B _ mb0
  have b1' := B _ mb1
  have c0' := C _ mc0
  have c1' := C _ mc1
  have same := cut_trips (a0 := a0) (a1 := a1) (b0 := b0) (b1 := b1) (c0 := c0) (c1 := c1) hx.1 hx.2.1 ⟨a0'.1, a1'.2⟩ ⟨b0'.1, b1'.2⟩ ⟨c0'.1, c1'.2⟩ fun t ht =>
    ⟨ba _ (List.mem_map.mpr ⟨t, ht, rfl⟩), bb _ (List.mem_map.mpr ⟨t, ht, rfl⟩), bc _ (List.mem_map.mpr ⟨t, ht, rfl⟩)⟩
  have eq : ∀ f : Int × Int × Int → Int, ∀ v, v ∈ (tripsL x0 x1 y0 y1 z0 z1).map f ↔ v ∈ (tripsL a0 a1 b0 b1 c0 c1).map f := fun f v => by
    simp only [List.mem_map, same]
  exact ⟨a0, a1, b0, b1, c0, c1, e0, e1, e2, e3, e4, e5, by omega, by omega, by omega,
    (due0 (by omega) (by omega) (by omega) (by omega) (by omega) (h0.of_eq (eq _))).symm,
    (due1 (by omega) (by omega) (by omega) (by omega) (by omega) (h1.of_eq (eq _))).symm,
    (due2 (by omega) (by omega) (by omega) (by omega) (by omega) (h2.of_eq (eq _))).symm⟩
/-- the numbers of the triples are small -/
theorem trips_near {x0 x1 y0 y1 z0 z1 : Int} (hx : -9 ≤ x0 ∧ x1 ≤ 9 ∧ x0 ≤ x1) (hy : -12 ≤ y0 ∧ y1 ≤ 12 ∧ y0 ≤ y1) (hz : -6 ≤ z0 ∧ z1 ≤ 9) :
    (∀ t ∈ tripsL x0 x1 y0 y1 z0 z1, -12 ≤ t.1 ∧ t.1 ≤ 12) ∧ (∀ t ∈ tripsL x0 x1 y0 y1 z0 z1, -12 ≤ t.2.1 ∧ t.2.1 ≤ 12) ∧ (∀ t ∈ tripsL x0 x1 y0 y1 z0 z1, -12 ≤ t.2.2 ∧ t.2.2 ≤ 12) := by
  refine ⟨fun t ht => ?_, fun t ht => ?_, fun t ht => ?_⟩ <;> (rw [mem_trips hx.1 hx.2.1] at ht; omega)
end Mine
end
section
open PySem PySem.W PyProof.Rows PySem.Calls PySem.Spec
set_option maxRecDepth 100000
namespace Mine
-- Rws
section
variable {prog : Program} {w : World} {A : Around} {E : Value → Shared → Prop} {s : Shared} {h₀ : Heap} {L : Addr} {m : Str → Option Value} {news : List (Addr × Obj)}
theorem reads_rows {l a b c : Addr} {va vb vc : List Value} {r0 r1 r2 : List Int} {n na nb nc : Nat} (N : News h₀ L s.heap news)
    (ml : (l, lstOf [.ref a, .ref b, .ref c] n) ∈ news) (ma : (a, lstOf va na) ∈ news) (mb : (b, lstOf vb nb) ∈ news) (mc : (c, lstOf vc nc) ∈ news) (i1 : IntsAre va r0) (i2 : IntsAre vb r1) (i3 : IntsAre vc r2) :
    ∃ as, Reads s.heap (.ref l) (.list [.list (r0.map PyData.int), .list (r1.map PyData.int), .list (r2.map PyData.int)]) as :=
  ⟨_, reads_list_at (N _ ml).1 rfl rfl (.cons (reads_newData ⟨_, (N _ ma).1, rfl, _, rfl⟩ (ke_carried i1)) (.cons (reads_newData ⟨_, (N _ mb).1, rfl, _, rfl⟩ (ke_carried i2)) (.cons (reads_newData ⟨_, (N _ mc).1, rfl, _, rfl⟩ (ke_carried i3)) .nil)))⟩
theorem shaped_rows (r0 r1 r2 : List Int) : SeqAt.shaped (.list [.list (r0.map PyData.int), .list (r1.map PyData.int), .list (r2.map PyData.int)]) = true := by
  simp [SeqAt.shaped, PyData.canLay0, PyData.canLayAll0, PyData.depth, PyData.depthAll, ke_canLayAll0, ke_depthAll]
/-- two lists of the same three rows are not unequal -/
theorem rows_ne {l a b c l' a' b' c' : Addr} {va vb vc va' vb' vc' : List Value} {r0 r1 r2 : List Int} {n na nb nc n' na' nb' nc' : Nat} {Q : Value → Shared → Prop} (N : News h₀ L s.heap news)
    (i1 : IntsAre va r0) (i2 : IntsAre vb r1) (i3 : IntsAre vc r2) (j1 : IntsAre va' r0) (j2 : IntsAre vb' r1) (j3 : IntsAre vc' r2) (hu : A.units + 64 < cLine)
    (hm : ∀ q ∈ [(l, lstOf [.ref a, .ref b, .ref c] n), (a, lstOf va na), (b, lstOf vb nb), (c, lstOf vc nc), (l', lstOf [.ref a', .ref b', .ref c'] n'), (a', lstOf va' na'), (b', lstOf vb' nb'), (c', lstOf vc' nc')], q ∈ news)
    (h : Q (.bool false) s) : wpAny (model prog w) A (compareOp .NotEq (.ref l) (.ref l')) Q E s := by
  obtain ⟨as, ra⟩ := reads_rows N (hm _ (.head _)) (hm _ (.tail _ (.head _))) (hm _ (.tail _ (.tail _ (.head _)))) (hm _ (.tail _ (.tail _ (.tail _ (.head _))))) i1 i2 i3
  obtain ⟨bs, rb⟩ := reads_rows N (hm _ (.tail _ (.tail _ (.tail _ (.tail _ (.head _)))))) (hm _ (.tail _ (.tail _ (.tail _ (.tail _ (.tail _ (.head _))))))) (hm _ (.tail _ (.tail _ (.tail _ (.tail _ (.tail _ (.tail _ (.head _)))))))) (hm _ (.tail _ (.tail _ (.tail _ (.tail _ (.tail _ (.tail _ (.tail _ (.head _))))))))) j1 j2 j3
  refine ne_dataH ra rb (shaped_rows _ _ _) (shaped_rows _ _ _) hu ?_
  have e : PyData.eqv (.list [.list (r0.map PyData.int), .list (r1.map PyData.int), .list (r2.map PyData.int)]) (.list [.list (r0.map PyData.int), .list (r1.map PyData.int), .list (r2.map PyData.int)]) = true := by
    simp [PyData.eqv, PyData.eqvAll, ked_eqvAll]
  rw [e]
  exact h
end
end Mine
end
section
open PySem PySem.W PyProof.Rows PySem.Calls PySem.Spec
set_option maxRecDepth 100000
namespace Mine
-- Rwt
def trD (t : Int × Int × Int) : PyData := .tuple [.int t.1, .int t.2.1, .int t.2.2]
theorem canLay_trips : ∀ ts : List (Int × Int × Int), PyData.canLayAll0 (ts.map trD) = true
  | [] => by simp [PyData.canLayAll0]
  | _ :: r => by simp [PyData.canLayAll0, PyData.canLay0, trD]; exact canLay_trips r
theorem depth_trips : ∀ ts : List (Int × Int × Int), PyData.depthAll (ts.map trD) ≤ 8
  | [] => by simp [PyData.depthAll]
  | _ :: r => by
    have := depth_trips r
    simp only [List.map_cons, PyData.depthAll, PyData.depth, trD]
    omega
theorem shaped_trips (ts : List (Int × Int × Int)) : SeqAt.shaped (.list (ts.map trD)) = true := by
  have h1 := depth_trips ts
  have h2 : PyData.depth (.list (ts.map trD)) ≤ 64 := by simp only [PyData.depth]; omega
  show (PyData.canLay0 (.list (ts.map trD)) && decide (PyData.depth (.list (ts.map trD)) ≤ 64)) = true
  rw [Bool.and_eq_true]
  exact ⟨by simp only [PyData.canLay0]; exact canLay_trips ts, decide_eq_true h2⟩
section
variable {prog : Program} {w : World} {A : Around} {E : Value → Shared → Prop} {s : Shared} {h₀ : Heap} {L : Addr} {m : Str → Option Value} {news : List (Addr × Obj)}
theorem reads_trips {tups : List (Addr × Obj)} (N : News h₀ L s.heap news) (hsub : ∀ p ∈ tups, p ∈ news) : ∀ {vs : List Value} {ts : List (Int × Int × Int)}, TA tups vs ts → ∃ as, ReadsAll s.heap vs (ts.map trD) as
  | _, _, .nil => ⟨_, .nil⟩
  | _, _, .cons hm r => by
    obtain ⟨as, h⟩ := reads_trips N hsub r
    exact ⟨_, .cons (reads_tuple_at (N _ (hsub _ hm)).1 rfl rfl (.cons (Reads.int _ _) (.cons (Reads.int _ _) (.cons (Reads.int _ _) .nil)))) h⟩
theorem trips_ne {tl e : Addr} {vs : List Value} {ln ne : Nat} {ts : List (Int × Int × Int)} {tups : List (Addr × Obj)} {Q : Value → Shared → Prop} (N : News h₀ L s.heap news) (hT : TA tups vs ts) (hsub : ∀ p ∈ tups, p ∈ news)
    (hm : (tl, lstOf vs ln) ∈ news) (he : (e, lstOf [] ne) ∈ news) (hu : A.units + 64 < cLine) (h1 : ts = [] → Q (.bool false) s) (h2 : ts ≠ [] → Q (.bool true) s) :
    wpAny (model prog w) A (compareOp .NotEq (.ref tl) (.ref e)) Q E s := by
  obtain ⟨as, ra⟩ := reads_trips N hsub hT
  have r1 : Reads s.heap (.ref tl) (.list (ts.map trD)) (tl :: as) := reads_list_at (N _ hm).1 rfl rfl ra
  have r2 : Reads s.heap (.ref e) (.list []) [e] := reads_list_at (N _ he).1 rfl rfl .nil
  refine ne_dataH r1 r2 (shaped_trips ts) rfl hu ?_
  cases ts with
  | nil =>
    have e : PyData.eqv (.list (([] : List (Int × Int × Int)).map trD)) (.list []) = true := by simp [PyData.eqv, PyData.eqvAll]
    rw [e]; exact h1 rfl
  | cons t r =>
    have e : PyData.eqv (.list ((t :: r).map trD)) (.list []) = false := by simp [PyData.eqv, PyData.eqvAll]
    rw [e]; exact h2 (by simp)
end
end Mine
end
section
open PySem PySem.W PyProof.Rows PySem.Calls PySem.Spec
set_option maxRecDepth 100000
namespace Mine
-- Itm
theorem seven {p : Int} {i : Nat} (h : p = 7 * (i : Int)) : p + 7 = 7 * ((i + 1 : Nat) : Int) := by omega
theorem getLast_at {ns : List Int} {b : Int} (h : ns.getLast? = some b) : ns[ns.length - 1]? = some b := by rw [← List.getLast?_eq_getElem?]; exact h
section
variable {prog : Program} {w : World} {A : Around} {E : Value → Shared → Prop} {s : Shared} {h₀ : Heap} {L : Addr} {m : Str → Option Value} {news : List (Addr × Obj)}
theorem head_item {value slice : PySem.Expr} {l : Addr} {vs : List Value} {ns : List Int} {n : Nat} {k a : Int} {u : Tok} {Q : Value → Shared → Prop} (N : News h₀ L s.heap news) (hm : (l, lstOf vs n) ∈ news) (hi : IntsAre vs ns)
    (h0 : ns.head? = some a) (hk : k = 0) (h : ∀ t, Q (.int a t) s)
    (hs : subscripted slice false (.ref l) (.int k u) = operate [.ref l, .int k u] (getItem (.ref l) (.int k u)) := by with_unfolding_all rfl) :
    wpAny (model prog w) A (subscriptTail value slice (.ref l) (.int k u)) Q E s := by
  subst hk
  cases ns with
  | nil => cases h0
  | cons x r =>
    cases h0
    exact item_anyK ⟨_, (N _ hm).1, rfl, _, rfl⟩ hi (by decide) (by simp) (by decide) (fun t => h t) hs
theorem last_item {value slice : PySem.Expr} {l : Addr} {vs : List Value} {ns : List Int} {n : Nat} {k b : Int} {u : Tok} {Q : Value → Shared → Prop} (N : News h₀ L s.heap news) (hm : (l, lstOf vs n) ∈ news) (hi : IntsAre vs ns)
    (h0 : ns.getLast? = some b) (hk : k = -1) (h : ∀ t, Q (.int b t) s)
    (hs : subscripted slice false (.ref l) (.int k u) = operate [.ref l, .int k u] (getItem (.ref l) (.int k u)) := by with_unfolding_all rfl) :
    wpAny (model prog w) A (subscriptTail value slice (.ref l) (.int k u)) Q E s := by
  subst hk
  have hp : 0 < ns.length := by
    cases ns with
    | nil => cases h0
    | cons x r => simp
  obtain ⟨t, ht⟩ := hi.get _ _ (getLast_at h0)
  have hl := hi.length
  have hsz : vs.toArray.size = ns.length := by rw [List.size_toArray]; exact hl
  have hL : s.heap.IsList l vs.toArray := ⟨_, (N _ hm).1, rfl, _, rfl⟩
  refine tail_any hL.typeIs slot_list_getitem.lookup (wpAny_getItem_list_neg hL (by decide) (by rw [hsz]; omega) (by decide) ?_ (h t)) hs
  rw [hsz, show ((-1 : Int) + (ns.length : Int)).toNat = ns.length - 1 by omega]
  simpa using ht
theorem cut_end {s : Shared} {h' : Heap} {tk : Nat} {T I C D : Addr} {to oI oC oD : Obj} {S : List (Addr × Obj) → Prop} {y : Value} {R : Value → List (Addr × Obj) → Prop}
    (F : Fr h₀ L h' m) (N : News h₀ L h' ((T, to) :: (I, oI) :: (C, oC) :: (D, oD) :: news)) (l1 : I < T) (l2 : C < T) (l3 : D < T) (off : LCg.Off3 I C D news) (hS : S ((T, to) :: news)) (hr : R y ((T, to) :: news)) :
    LCg.CompEnd h₀ L m s I oI C oC D oD S R y { s with heap := h', toks := tk } := by
  refine LCg.CompEnd.intro F N ((T, to) :: news) (fun p hp => ?_) ⟨⟨Nat.ne_of_gt l1, Nat.ne_of_gt l2, Nat.ne_of_gt l3⟩, off⟩ hS hr
  simp only [List.mem_cons] at hp ⊢
  rcases hp with h | h | h | h | h
  · exact .inr (.inl h)
  · exact .inr (.inr (.inl h))
  · exact .inr (.inr (.inr (.inl h)))
  · exact .inl h
  · exact .inr (.inr (.inr (.inr h)))
end
end Mine
end
section
open PySem PySem.W PyProof.Rows PySem.Calls PySem.Spec
set_option maxRecDepth 100000
namespace Mine
-- LLoop
section
variable {prog : Program} {w : World} {A : Around} {E : Value → Shared → Prop} {s : Shared} {env : Env} {h₀ : Heap} {x : Str} {body : List Stmt} {Q : Flow → Shared → Prop}
/-- the law's two laps: hand, rule and the cell of the triples stand; a lap moves the hand by seven -/
theorem law_loop {r hl hs xr d cc : Addr} {t₀ u₀ v₀ tp0 s1 s2 s3 s4 : Tok} {v1 v2 v3 v4 : Value} {n0 yn : Nat} {YS : List Value} {co0 : Obj} {vc0 : Option Value} {m₀ : Str → Option Value} {news : List (Addr × Obj)}
    (hh : A.handled = none) (hr : IsRange s.heap r 0 2 1 t₀ u₀ v₀) (F : Fr h₀ env.locals s.heap m₀) (N : News h₀ env.locals s.heap news) (hcd : co0.data = .cell vc0)
    (hsub : ∀ q ∈ [(hl, lstOf [.ref hs, .int 0 tp0] n0), (hs, lstOf YS yn), (xr, instObj 216 d), (d, remD w.params s1 s2 s3 s4 v1 v2 v3 v4), (cc, co0)], q ∈ news)
    (e1 : m₀ "hand" = some (.ref hl)) (e2 : m₀ "rule" = some (.ref xr)) (hx : x = "lap")
    (n1 : @Ne Nat hl hs) (n2 : @Ne Nat cc hl) (n3 : @Ne Nat cc hs) (n4 : @Ne Nat cc xr) (n5 : @Ne Nat cc d)
    (turn : ∀ (R : Flow → Shared → Prop) (mz : Str → Option Value) (p : Int) (tp : Tok) (hn : Nat) (co : Obj) (vc : Option Value) (k : Int) (t : Tok) (h : Heap) (tk : Nat) (I : Addr) (oI : Obj), 0 ≤ p → p ≤ 900 → co.data = .cell vc →
      @Ne Nat hl hs → @Ne Nat cc hl → @Ne Nat cc hs → @Ne Nat cc xr → @Ne Nat cc d → @Ne Nat cc I → @Ne Nat hl I →
      Fr h₀ env.locals h (fun y => if y = "lap" then some (.int k t) else if y = "hand" then some (.ref hl) else if y = "rule" then some (.ref xr) else mz y) →
      News h₀ env.locals h [(I, oI), (hl, lstOf [.ref hs, .int p tp] hn), (hs, lstOf YS yn), (xr, instObj 216 d), (d, remD w.params s1 s2 s3 s4 v1 v2 v3 v4), (cc, co)] →
      (∀ h' tk' m' nx tq n co' vc', Fr h₀ env.locals h' m' → News h₀ env.locals h' nx → (I, oI) ∈ nx → (hl, lstOf [.ref hs, .int (p + 7) tq] n) ∈ nx → (hs, lstOf YS yn) ∈ nx → (xr, instObj 216 d) ∈ nx → (d, remD w.params s1 s2 s3 s4 v1 v2 v3 v4) ∈ nx → (cc, co') ∈ nx →
        co'.data = .cell vc' → (∀ z : Str, z ≠ "lap" → z ≠ "box" → z ≠ "due" → m' z = if z = "hand" then some (.ref hl) else if z = "rule" then some (.ref xr) else mz z) → R .next { s with heap := h', toks := tk' }) →
      wpAny (model prog w) A (execs body env) R E { s with heap := h, toks := tk })
    (done : ∀ (mz : Str → Option Value) h tk, Fr h₀ env.locals h mz → News h₀ env.locals h [] → Q .next { s with heap := h, toks := tk }) :
    wpAny (model prog w) A (pyIter (.ref r)) (fun it s₂ => LoopAtV prog w A h₀ env x body Q E it s₂) E s := by
  subst hx
  refine loopS_range (σ := Int × Tok × Nat × Obj) (n := 2) (fun c => [(hl, lstOf [.ref hs, .int c.1 c.2.1] c.2.2.1), (hs, lstOf YS yn), (xr, instObj 216 d), (d, remD w.params s1 s2 s3 s4 v1 v2 v3 v4), (cc, c.2.2.2)]) (fun _ => []) ["box", "due"]
    (fun i c => c.1 = 7 * (i : Int) ∧ ∃ v, c.2.2.2.data = .cell v) (0, tp0, n0, co0) hh hr (by decide) (by decide) F (fun p hp => N p (hsub p hp)) (List.forall_mem_nil _) ⟨rfl, vc0, hcd⟩ ?_ ?_
  · rintro ⟨p, tp, hn, co⟩ i k t u h tk I oI hk hi ⟨hp, vc, hco⟩ ho F' N'
    dsimp only at hp hco
    have em : (fun y => if y = ("lap" : Str) then some (Value.int k t) else kstB (fun z => if ([("box" : Str), "due"]).contains z then u z else m₀ z) [] y) =
        fun y => if y = ("lap" : Str) then some (Value.int k t) else if y = "hand" then some (.ref hl) else if y = "rule" then some (.ref xr) else (if ([("box" : Str), "due"]).contains y then u y else m₀ y) := by
      funext y
      by_cases q1 : y = ("lap" : Str)
      · rw [if_pos q1, if_pos q1]
      · rw [if_neg q1, if_neg q1]
        by_cases q2 : y = ("hand" : Str)
        · subst q2
          rw [if_pos rfl]
          exact e1
        · rw [if_neg q2]
          by_cases q3 : y = ("rule" : Str)
          · subst q3
            rw [if_pos rfl]
            exact e2
          · rw [if_neg q3]
            rfl
    have F2 : Fr h₀ env.locals h (fun y => if y = ("lap" : Str) then some (Value.int k t) else kstB (fun z => if ([("box" : Str), "due"]).contains z then u z else m₀ z) [] y) := F'
    rw [em] at F2
    refine turn _ (fun y => if ([("box" : Str), "due"]).contains y then u y else m₀ y) p tp hn co vc k t h tk I oI (by omega) (by omega) hco n1 n2 n3 n4 n5 ho.2.2.2.2.1 ho.1 F2 N' ?_
    intro h' tk' m' nx tq n co' vc' FE NE g0 g1 g2 g3 g4 g5 hc' hm
    refine SEnd.intro (p + 7, tq, n, co') FE NE ?_ ⟨ho.1, ho.2.1, ho.2.2.1, ho.2.2.2.1, ho.2.2.2.2.1, trivial⟩ (List.forall_mem_nil _) ?_ ⟨seven hp, vc', hc'⟩
    · intro q hq
      simp only [List.mem_cons, List.not_mem_nil, or_false] at hq
      rcases hq with rfl | rfl | rfl | rfl | rfl | rfl <;> assumption
    · intro z h1 _ h3
      have h4 := h3
      simp only [List.contains_cons, List.contains_nil, Bool.or_false, Bool.or_eq_false_iff, beq_eq_false_iff_ne, ne_eq] at h3
      rw [hm z h1 h3.1 h3.2]
      by_cases q2 : z = ("hand" : Str)
      · subst q2; rw [if_pos rfl]; exact e1.symm
      · rw [if_neg q2]
        by_cases q3 : z = ("rule" : Str)
        · subst q3; rw [if_pos rfl]; exact e2.symm
        · rw [if_neg q3, h4]; rfl
  · rintro ⟨p, tp, hn, co⟩ u h tk _ F' N'
    exact done _ h tk F' (List.forall_mem_nil _)
end
end Mine
end
section
open PySem PySem.W PyProof.Rows PySem.Calls PySem.Spec
namespace Mine
-- CRem
section
variable {w : World} {mean : ExcName → Option Value} {mg mb : Str → Option Value} {news : List (Addr × Obj)}
  {dp un : Nat} {gd : Option (List Code)} {cn : Str} {cs : Scope} {a : Addr} {ccd : Value} {cl : List (Str × Addr)} {outer : List Env} {A₀ : Around} {base h₀ : Heap} {L : Addr} {m : Str → Option Value} {s : Shared} {Q E : Value → Shared → Prop}
local macro_rules | `(tactic| k_room) => `(tactic| ktr_room)
set_option maxRecDepth 100000 in
set_option maxHeartbeats 8000000 in
theorem rem_use {ta tb tc : Tok}
   (B : Below A₀ base outer h₀) (F : Fr h₀ L s.heap m) (X : (hd.heap_39 w.params).In h₀) (N : News h₀ L s.heap news) (T : Top viewL (looseW viewL []) mean mg mb h₀) (hk : cs.kind = .function)
   (hd : dp + 6 < recursionLimit) (hu : un + 100 * 6 < cLine)
   (k : ∀ x d s1 s2 s3 s4 v1 v2 v3 v4 h' tk', (∀ p ∈ news, p.1 < d) → d < x → Fr h₀ L h' m → News h₀ L h' ((x, instObj 216 d) :: (d, remD w.params s1 s2 s3 s4 v1 v2 v3 v4) :: news) → Q (.ref x) { s with heap := h', toks := tk' }) :
    wpAny (model PySem.Challenge.rw_ok0088_01.row.prog w) (ktrTop dp un gd cn cs L a ccd cl outer) (call (.ref 216) [.int 4 ta, .int 5 tb, .int 6 tc]) Q E s := by
  revert X
  k_fill
  intro X
  k_here
  k_dflt (refine' call_cls ?k1 ?k2 ?k3 ?k4 ?k5 ?k6 ?_)
  case k1 => k_asm
  case k2 => k_asm
  case k3 => k_asm
  case k4 => k_is
  case k5 => k_is
  case k6 => k_is
  k_whole
  intro x' d' h' F' N' l1 l2
  have la := l1
  have lb := l2
  (try k_lt l1)
  (try k_lt2 l2)
  k_dflt (refine' ks_code_super ?k1 ?k2 ?k3 ?k4 ?k5 ?kA ?kF ?kK ?k6 ?k7 ?k8 ?k9 ?kB ?_ ?c1 ?c2 ?c3 ?c4; (case kA => exact rfl); (case kF => exact rfl); (case kK => exact hk); (case k1 => k_asm); (case k2 => k_asm); (case k3 => k_asm); (case k4 => k_asm); (case k5 => k_asm); (case k6 => k_is); (case k7 => k_is); (case k8 => ktr_room); (case k9 => exact BindsTo.of_eq rfl); (case kB => exact locs rfl); (case c1 => decide); (case c2 => exact rfl); (case c3 => exact rfl); (case c4 => exact rfl); intro g' L' h' FG' F' N' B' X' T' l1)
  (try k_lt l1)
  (try dsimp only)
  (try k_lift B')
  (try k_fold)
  k_steps
  (rename Fr h₀ _ _ _ => hFE)
  (rename News h₀ _ _ _ => hNE)
  exact k x' d' _ _ _ _ _ _ _ _ _ _ la lb hFE (fun q hq => hNE q ((by kcf_all : ∀ q ∈ (x', instObj 216 d') :: (d', remD w.params _ _ _ _ _ _ _ _) :: news, q ∈ _) q hq))
end
end Mine
end
section
open PySem PySem.W PyProof.Rows PySem.Calls PySem.Spec
namespace Mine
-- LawC
/-- from here on the comprehensions are taken by hand -/
abbrev tsOf {tups : List (Addr × Obj)} {vs : List Value} {ts : List (Int × Int × Int)} (_ : TA tups vs ts) : List (Int × Int × Int) := ts
def Mark9 : Prop := True
theorem wide20 {a b : Int} (h : -6 ≤ a ∧ b ≤ 9 ∧ a ≤ b) : -20 ≤ a ∧ b ≤ 20 ∧ a ≤ b := by omega
theorem hand_facts (l : List Int) : ∀ x ∈ (List.take 30 l).map (fun k' => (if k' < 0 then -k' else k').fmod (10 ^ Int.toNat 9)), 0 ≤ x ∧ x < 10 ^ 9 := by
  intro x hx
  obtain ⟨k, _, rfl⟩ := List.mem_map.mp hx
  exact ⟨Int.fmod_nonneg_of_pos _ (by decide), Int.fmod_lt_of_pos _ (by decide)⟩
theorem hand_len (l : List Int) : ((List.take 30 l).map (fun k' => (if k' < 0 then -k' else k').fmod (10 ^ Int.toNat 9))).length ≤ 63 := by
  rw [List.length_map, List.length_take]; omega
theorem hand_pack {ys : List Value} {l : List Int} (h : IntsAre ys ((List.take 30 l).map (fun k' => (if k' < 0 then -k' else k').fmod (10 ^ Int.toNat 9)))) : ∃ ns, IntsAre ys ns ∧ (∀ x ∈ ns, 0 ≤ x ∧ x < 10 ^ 9) ∧ ns.length ≤ 63 := ⟨_, h, hand_facts l, hand_len l⟩
local macro_rules | `(tactic| walk_at "pyIter ref") => `(tactic| (k_here; (with_reducible show wpAny _ _ (pyIter (Value.ref _)) (fun it s₂ => LoopAtV _ _ _ _ _ _ _ _ _ it s₂) _ _); refine Stop.out ?_))
local macro_rules | `(tactic| walk_at "call ref") => `(tactic| (k_here; (with_reducible show wpAny _ _ (call (Value.ref _) _) _ _ _); refine Stop.out ?_))
local macro_rules | `(tactic| walk_at "CompSrcT") => `(tactic| (k_here; (rename Mark9 => mk9); refine Stop.out ?_))
local macro_rules | `(tactic| walk_at "CompSrc") => `(tactic| (k_here; (rename Mark9 => mk9); refine Stop.out ?_))
local macro_rules | `(tactic| walk_at "eval ListComp") => `(tactic| (k_here; (rename Mark9 => mk9); k_dflt (refine' LCg.ListComp_U (F₀ := ?F) ?z0 ?z1 ?z2 ?z3 ?z4 ?_ ?g; (case F => k_asm); (case z0 => with_unfolding_all rfl); (case z1 => decide); (case z2 => rfl); (case z3 => decide); (case z4 => rfl); (case g => intro _; rfl))))
local macro_rules | `(tactic| walk_at "compareOp NotEq ref ref") => `(tactic| (k_here; (rename Mark9 => mk9); (with_reducible show wpAny _ _ (compareOp CmpOp.NotEq (Value.ref _) (Value.ref _)) _ _ _); refine Stop.out ?_))
local macro_rules | `(tactic| walk_at "subscriptTail") => `(tactic| (k_here; (rename Cut _ _ _ _ _ _ _ _ _ _ _ _ _ _ _ => hcut); (with_reducible show wpAny _ _ (subscriptTail _ _ (Value.ref _) (Value.int _ _)) _ _ _); k_dflt (first
  | (refine' head_item ?N ?hm ?hi ?h0 ?hk ?_ ?hs; (case N => k_asm); (case hm => k_mem); (case hi => assumption); (case h0 => assumption); (case hk => rfl); (case hs => with_unfolding_all rfl); k_whole)
  | (refine' last_item ?N ?hm ?hi ?h0 ?hk ?_ ?hs; (case N => k_asm); (case hm => k_mem); (case hi => assumption); (case h0 => assumption); (case hk => rfl); (case hs => with_unfolding_all rfl); k_whole)); intro t9; (try dsimp only)))
local macro_rules | `(tactic| walk_at "subscriptTail Name UnaryOp ref int") => `(tactic| (k_here; (rename Cut _ _ _ _ _ _ _ _ _ _ _ _ _ _ _ => hcut); (with_reducible show wpAny _ _ (subscriptTail _ _ (Value.ref _) (Value.int _ _)) _ _ _); k_dflt (refine' last_item ?N ?hm ?hi ?h0 ?hk ?_ ?hs; (case N => k_asm); (case hm => k_mem); (case hi => assumption); (case h0 => assumption); (case hk => rfl); (case hs => with_unfolding_all rfl); k_whole); intro t9; (try dsimp only)))
local macro_rules | `(tactic| walk_at "CompEnd") => `(tactic| ((rename Cut _ _ _ _ _ _ _ _ _ _ _ _ _ _ _ => hcut); refine Stop.out ?_))
set_option maxRecDepth 100000 in
set_option maxHeartbeats 8000000 in
theorem lawC : PySem.Challenge.rw_ok0088_01.Holds := by
  refine hd ?_
  k_go0
  (all_goals try k_fold)
  k_steps
  refine Stop.intro ?_
  k_dflt (refine' rem_use ?B ?F ?X ?N ?T ?hk ?hd ?hu ?_; (case B => k_asm); (case F => k_asm); (case X => k_asm); (case N => k_asm); (case T => k_asm); (case hk => first | exact rfl | assumption); (case hd => ktr_room); (case hu => ktr_units); k_whole)
  intro x9 d9 s91 s92 s93 s94 v91 v92 v93 v94 h9 tk9 l91 l92 F9 N9
  (try k_lt l91)
  (try k_lt2 l92)
  (try dsimp only)
  (try k_sweep)
  k_steps
  (rename World => w)
  (rename IsRange _ _ _ _ _ _ _ _ => hR)
  (rename Fr _ _ _ _ => hF)
  (rename News _ _ _ _ => hN)
  (rename IntsAre _ (List.map _ (List.take 30 _)) => hI8)
  obtain ⟨NS, hI, hall, hlen⟩ := hand_pack hI8
  clear hI8
  refine Stop.intro ?_
  refine law_loop rfl hR hF hN (by assumption) (by kcf_all) (by rfl) (by rfl) rfl (by first | k_ne | omega) (by first | k_ne | omega) (by first | k_ne | omega) (by first | k_ne | omega) (by first | k_ne | omega) ?_ ?_
  · intro R mz p tp hn co vc k t h tk I oI hp0 hp1 hco n1 n2 n3 n4 n5 n6 n7 F' N' hEnd
    have mk9 : Mark9 := trivial
    k_steps
    refine Stop.intro ?_
    k_dflt (refine' box_use ?hI ?hall ?hne ?hlen ?B ?F ?X ?N ?T ?hk ?hd ?hu ?U ?hm ?hcc ?hc1 ?hc2 ?hp0 ?hp1 ?_; (case hI => assumption); (case hall => assumption); (case B => k_asm); (case F => k_asm); (case X => k_asm); (case N => k_asm); (case T => k_asm); (case hk => first | exact rfl | assumption); (case U => k_updF); (case hm => k_mem); (case hne => assumption); (case hlen => assumption); (case hc1 => assumption); (case hc2 => assumption); (case hcc => k_mem); (case hd => ktr_room); (case hu => ktr_units); (case hp0 => first | assumption | omega); (case hp1 => first | assumption | omega); k_whole)
    intro bx9 t09 t19 t29 nb9 x09 x19 y09 y19 z09 z19 u09 u19 u29 u39 u49 u59 tq9 n9 h9 tk9 hx9 hy9 hz9 ho9 F9 N9
    (try simp only [boxO, List.cons_append, List.nil_append] at N9)
    (try dsimp only)
    (try k_sweep)
    k_steps
    refine Stop.intro ?_
    k_dflt (refine' trip_use ?B ?F ?X ?N ?T ?hk ?hd ?hu ?hs ?hcc ?hoff ?hx ?hy ?_; (case B => k_asm); (case F => k_asm); (case X => k_asm); (case N => k_asm); (case T => k_asm); (case hk => first | exact rfl | assumption); (case hoff => assumption); (case hs => kcj_all); (case hcc => k_mem); (case hx => assumption); (case hy => assumption); (case hd => ktr_room); (case hu => ktr_units); k_whole)
    intro tl9 vs9 ln9 tups9 h9 tk9 htl9 hto9 hTA9 hvl9 F9 N9
    (try simp only [List.cons_append, List.nil_append] at N9)
    (try dsimp only)
    (try k_sweep)
    k_steps
    k_dflt (refine' Assign_ListComp_C (F₀ := ?F) ?z0 ?z1 ?z2 ?z3 ?z3b ?z4 ?z5 ?z6 ?z7 ?z8 ?_ ?g)
    case F => k_asm
    case z0 => rfl
    case z1 => with_unfolding_all rfl
    case z2 => with_unfolding_all rfl
    case z3 => intro _; rfl
    case z3b => intro _; rfl
    case z4 => rfl
    case z5 => decide
    case z6 => with_unfolding_all rfl
    case z7 => rfl
    case z8 => rfl
    case g => intro _; rfl
    k_steps
    (rename News _ _ _ _ => hN6)
    (rename Fr _ _ _ _ => hF6)
    (rename IsRange _ _ _ _ _ _ _ _ => hR6)
    show SrcRC _ _ _ _ _ _ _ _ _ _ _ _ _ _
    refine ⟨_, 0, 3, _, _, _, 3, _, rfl, rfl, hF6, hN6, hR6, rfl, rfl, by decide, ?_⟩
    rintro s₂ ⟨h9, rfl⟩
    have M9 := mk9
    (rename TA _ _ _ => hTA)
    (rename List.length _ ≤ 100000 => hvl)
    (rename -9 ≤ _ ∧ _ ≤ 9 ∧ _ ≤ _ => hbx)
    (rename -12 ≤ _ ∧ _ ≤ 12 ∧ _ ≤ _ => hby)
    (rename -6 ≤ _ ∧ _ ≤ 9 ∧ _ ≤ _ => hbz)
    have near0 : ∀ q ∈ tsOf hTA, -12 ≤ q.1 ∧ q.1 ≤ 12 := (trips_near hbx hby ⟨hbz.1, hbz.2.1⟩).1
    have near1 : ∀ q ∈ tsOf hTA, -12 ≤ q.2.1 ∧ q.2.1 ≤ 12 := (trips_near hbx hby ⟨hbz.1, hbz.2.1⟩).2.1
    have near2 : ∀ q ∈ tsOf hTA, -12 ≤ q.2.2 ∧ q.2.2 ≤ 12 := (trips_near hbx hby ⟨hbz.1, hbz.2.1⟩).2.2
    clear hN6 hF6 hR6
    refine CompRestC.succ ?_
    intro v I2 oI2 C2 oC2 D2 K2 oK2 m2 h2 tk2 E2 hP2 hC2 hK2 F2 N2 off2 offK2 ne2
    obtain ⟨tv, rfl⟩ := hP2
    (try dsimp only at N2 F2)
    replace hK2 : oK2.data = .cell (some (.int 0 tv)) := hK2
    k_steps
    refine Stop.intro ?_
    (rename News _ _ _ _ => hN7)
    (rename Fr _ _ _ _ => hF7)
    refine LCg.CompSrc.ledger rfl hF7 hN7 (by k_mem) (by show _ ≤ _; rw [List.size_toArray]; exact Nat.le_trans hvl (by decide)) fun g9 => ?_
    refine rest_trip (fun q => q.1) hTA (by intro p hp; (repeat (first | exact hp | refine List.Mem.tail _ ?_))) ?_ ?_
    · intro a tr tx ty tz I3 oI3 C3 oC3 D3 m3 ys3 h3 tk3 E3 htr hC3 hx3 F3 N3 off3 ne3
      k_steps
    intro ys hys D3 h3 tk3 F3 N3 off3
    clear hN7 hF7
    k_steps
    refine setX_N F3 N3 rfl (.head _) hys (by intro z hz; obtain ⟨q, hq, rfl⟩ := List.mem_map.mp hz; exact near0 q hq) fun SA hA tkA so FA NA ltA hXA => ?_
    (try dsimp only)
    k_steps
    refine sortedX_N FA NA rfl (.head _) hXA fun RA0 hB tkB rs0 rn0 rc0 FB NB ltB hI0 hSD0 => ?_
    (try dsimp only)
    k_steps
    refine due_end FB NB ltB off2 offK2 ⟨_, hK2⟩ ?_
    (try clear hXA); (try clear ltA); (try clear ltB); (try clear NA); (try clear FA); (try clear NB); (try clear FB); (try clear N3); (try clear F3); (try clear off3); (try clear hys); (try clear offK2); (try clear off2); (try clear N2); (try clear F2); (try clear hK2); (try clear hC2); (try clear ne2)
    refine CompRestC.succ ?_
    intro v I2 oI2 C2 oC2 D2 K2 oK2 m2 h2 tk2 E2 hP2 hC2 hK2 F2 N2 off2 offK2 ne2
    obtain ⟨tv, rfl⟩ := hP2
    (try dsimp only at N2 F2)
    replace hK2 : oK2.data = .cell (some (.int 1 tv)) := hK2
    k_steps
    refine Stop.intro ?_
    (rename News _ _ _ _ => hN7)
    (rename Fr _ _ _ _ => hF7)
    refine LCg.CompSrc.ledger rfl hF7 hN7 (by k_mem) (by show _ ≤ _; rw [List.size_toArray]; exact Nat.le_trans hvl (by decide)) fun g9 => ?_
    refine rest_trip (fun q => q.2.1) hTA (by intro p hp; (repeat (first | exact hp | refine List.Mem.tail _ ?_))) ?_ ?_
    · intro a tr tx ty tz I3 oI3 C3 oC3 D3 m3 ys3 h3 tk3 E3 htr hC3 hx3 F3 N3 off3 ne3
      k_steps
    intro ys hys D3 h3 tk3 F3 N3 off3
    clear hN7 hF7
    k_steps
    refine setX_N F3 N3 rfl (.head _) hys (by intro z hz; obtain ⟨q, hq, rfl⟩ := List.mem_map.mp hz; exact near1 q hq) fun SA hA tkA so FA NA ltA hXA => ?_
    (try dsimp only)
    k_steps
    refine sortedX_N FA NA rfl (.head _) hXA fun RA1 hB tkB rs1 rn1 rc1 FB NB ltB hI1 hSD1 => ?_
    (try dsimp only)
    k_steps
    refine due_end FB NB ltB off2 offK2 ⟨_, hK2⟩ ?_
    (try clear hXA); (try clear ltA); (try clear ltB); (try clear NA); (try clear FA); (try clear NB); (try clear FB); (try clear N3); (try clear F3); (try clear off3); (try clear hys); (try clear offK2); (try clear off2); (try clear N2); (try clear F2); (try clear hK2); (try clear hC2); (try clear ne2)
    refine CompRestC.succ ?_
    intro v I2 oI2 C2 oC2 D2 K2 oK2 m2 h2 tk2 E2 hP2 hC2 hK2 F2 N2 off2 offK2 ne2
    obtain ⟨tv, rfl⟩ := hP2
    (try dsimp only at N2 F2)
    replace hK2 : oK2.data = .cell (some (.int 2 tv)) := hK2
    k_steps
    refine Stop.intro ?_
    (rename News _ _ _ _ => hN7)
    (rename Fr _ _ _ _ => hF7)
    refine LCg.CompSrc.ledger rfl hF7 hN7 (by k_mem) (by show _ ≤ _; rw [List.size_toArray]; exact Nat.le_trans hvl (by decide)) fun g9 => ?_
    refine rest_trip (fun q => q.2.2) hTA (by intro p hp; (repeat (first | exact hp | refine List.Mem.tail _ ?_))) ?_ ?_
    · intro a tr tx ty tz I3 oI3 C3 oC3 D3 m3 ys3 h3 tk3 E3 htr hC3 hx3 F3 N3 off3 ne3
      k_steps
    intro ys hys D3 h3 tk3 F3 N3 off3
    clear hN7 hF7
    k_steps
    refine setX_N F3 N3 rfl (.head _) hys (by intro z hz; obtain ⟨q, hq, rfl⟩ := List.mem_map.mp hz; exact near2 q hq) fun SA hA tkA so FA NA ltA hXA => ?_
    (try dsimp only)
    k_steps
    refine sortedX_N FA NA rfl (.head _) hXA fun RA2 hB tkB rs2 rn2 rc2 FB NB ltB hI2 hSD2 => ?_
    (try dsimp only)
    k_steps
    refine due_end FB NB ltB off2 offK2 ⟨_, hK2⟩ ?_
    (try clear hXA); (try clear ltA); (try clear ltB); (try clear NA); (try clear FA); (try clear NB); (try clear FB); (try clear N3); (try clear F3); (try clear off3); (try clear hys); (try clear offK2); (try clear off2); (try clear N2); (try clear F2); (try clear hK2); (try clear hC2); (try clear ne2)
    refine CompRestC.zero ?_
    intro D3 h3 tk3 F3 N3 off3
    replace N3 : News _ _ _ ((D3, lstOf [.ref RA0, .ref RA1, .ref RA2] 3) :: _) := N3
    clear near0 near1 near2
    have q0 := due0 hbx.1 hbx.2.1 hby.1 hby.2.1 hby.2.2 hSD0
    have q1 := due1 hbx.1 hbx.2.1 hby.1 hby.2.1 hby.2.2 hSD1
    have q2 := due2 hbx.1 hbx.2.1 hby.1 hby.2.1 hby.2.2 hSD2
    have hbz2 := wide20 hbz
    k_steps
    refine Stop.intro ?_
    k_dflt (refine' told_use ?B ?F ?X ?N ?T ?hk ?hd ?hu ?hs ?hx ?hy ?hz ?_; (case B => k_asm); (case F => k_asm); (case X => k_asm); (case N => k_asm); (case T => k_asm); (case hk => first | exact rfl | assumption); (case hs => kcj_all); (case hx => assumption); (case hy => assumption); (case hz => first | assumption | omega); (case hd => ktr_room); (case hu => ktr_units); k_whole)
    intro l9 a9 b9 c9 nl9 va9 na9 vb9 nb9 vc9 nc9 h9 tk9 i19 i29 i39 F9 N9
    (try dsimp only)
    (try k_sweep)
    k_steps
    refine Stop.intro ?_
    (rename News _ _ _ _ => hN8)
    (rename IntsAre _ (row0 _ _ _ _ _ _) => hr0)
    (rename IntsAre _ (row1 _ _ _ _ _ _) => hr1)
    (rename IntsAre _ (row2 _ _ _ _ _ _) => hr2)
    rw [← q0] at hr0
    rw [← q1] at hr1
    rw [← q2] at hr2
    refine rows_ne hN8 hr0 hr1 hr2 hI0 hI1 hI2 (by units_room) (by kcf_all) ?_
    clear hr0 hr1 hr2
    k_steps
    refine Stop.intro ?_
    (rename News _ _ _ _ => hN9)
    refine trips_ne hN9 hTA (by intro p hp; (repeat (first | exact hp | refine List.Mem.tail _ ?_))) (by kcf_m) (by kcf_m) (by units_room) ?_ ?_
    · intro hnil
      k_steps
      (rename Fr _ _ _ _ => hFE)
      (rename News _ _ _ _ => hNE)
      refine hEnd _ _ _ _ _ _ _ _ hFE hNE (by kcf_m) (by kcf_m) (by kcf_m) (by kcf_m) (by kcf_m) (by kcf_m) (by assumption) ?_
      intro z q1 q2 q3
      simp [q1, q2, q3]
    · intro hne
      k_steps
      refine Stop.intro ?_
      obtain ⟨ca0, ca1, cb0, cb1, cc0, cc1, hcut⟩ := cut_of hbx hby hbz2 hSD0 hSD1 hSD2 hne
      have e0 := hcut.e0
      have e1 := hcut.e1
      have e2 := hcut.e2
      have e3 := hcut.e3
      have e4 := hcut.e4
      have e5 := hcut.e5
      have hcx := hcut.hx
      have hcy := hcut.hy
      have hcz := hcut.hz
      (rename Fr _ _ _ _ => hF10)
      refine LCg.CompSrc.ledger rfl hF10 hN9 (by k_mem) (by exact Nat.le_of_ble_eq_true rfl) fun g10 => ?_
      lcg_lit
      refine LCg.CompRest.succ ?_
      intro v I2 oI2 C2 oC2 D2 m2 h2 tk2 E2 hv2 hC2 hx2 F2 N2 off2 ne2
      lcg_open hv2
      k_steps
      refine Stop.intro ?_
      (rename News _ _ _ _ => hN11)
      (rename Fr _ _ _ _ => hF11)
      (rename (_ < _) ∧ (_ < _) ∧ (_ < _) ∧ _ => hl1)
      obtain ⟨T0, hadr⟩ : ∃ l, l = nAddr hN11 0 := ⟨_, rfl⟩; simp only [nAddr, List.map_cons, List.getD_cons_succ, List.getD_cons_zero] at hadr; subst hadr
      refine cut_end hF11 hN11 hl1.1 hl1.2.1 hl1.2.2.1 off2 (by lcg_src) ?_
      (try clear hF11); (try clear hN11); (try clear hl1); (try clear F2); (try clear N2); (try clear off2); (try clear ne2); (try clear hC2); (try clear hx2); (try clear hv2)
      refine LCg.CompRest.succ ?_
      intro v I2 oI2 C2 oC2 D2 m2 h2 tk2 E2 hv2 hC2 hx2 F2 N2 off2 ne2
      lcg_open hv2
      k_steps
      refine Stop.intro ?_
      (rename News _ _ _ _ => hN11)
      (rename Fr _ _ _ _ => hF11)
      (rename (_ < _) ∧ (_ < _) ∧ (_ < _) ∧ _ => hl1)
      obtain ⟨T1, hadr⟩ : ∃ l, l = nAddr hN11 0 := ⟨_, rfl⟩; simp only [nAddr, List.map_cons, List.getD_cons_succ, List.getD_cons_zero] at hadr; subst hadr
      refine cut_end hF11 hN11 hl1.1 hl1.2.1 hl1.2.2.1 off2 (by lcg_src) ?_
      (try clear hF11); (try clear hN11); (try clear hl1); (try clear F2); (try clear N2); (try clear off2); (try clear ne2); (try clear hC2); (try clear hx2); (try clear hv2)
      refine LCg.CompRest.succ ?_
      intro v I2 oI2 C2 oC2 D2 m2 h2 tk2 E2 hv2 hC2 hx2 F2 N2 off2 ne2
      lcg_open hv2
      k_steps
      refine Stop.intro ?_
      (rename News _ _ _ _ => hN11)
      (rename Fr _ _ _ _ => hF11)
      (rename (_ < _) ∧ (_ < _) ∧ (_ < _) ∧ _ => hl1)
      obtain ⟨T2, hadr⟩ : ∃ l, l = nAddr hN11 0 := ⟨_, rfl⟩; simp only [nAddr, List.map_cons, List.getD_cons_succ, List.getD_cons_zero] at hadr; subst hadr
      refine cut_end hF11 hN11 hl1.1 hl1.2.1 hl1.2.2.1 off2 (by lcg_src) ?_
      (try clear hF11); (try clear hN11); (try clear hl1); (try clear F2); (try clear N2); (try clear off2); (try clear ne2); (try clear hC2); (try clear hx2); (try clear hv2)
      refine LCg.CompRest.zero ?_
      intro D4 h4 tk4 F4 N4 off4
      replace N4 : News _ _ _ ((D4, lstOf [.ref T0, .ref T1, .ref T2] 3) :: _) := N4
      k_steps
      refine Stop.intro ?_
      k_dflt (refine' told_use ?B ?F ?X ?N ?T ?hk ?hd ?hu ?hs ?hx ?hy ?hz ?_; (case B => k_asm); (case F => k_asm); (case X => k_asm); (case N => k_asm); (case T => k_asm); (case hk => first | exact rfl | assumption); (case hs => kcj_all); (case hx => assumption); (case hy => assumption); (case hz => first | assumption | omega); (case hd => ktr_room); (case hu => ktr_units); k_whole)
      intro l9 a9 b9 c9 nl9 va9 na9 vb9 nb9 vc9 nc9 h9 tk9 i19 i29 i39 F9 N9
      (try dsimp only)
      (try k_sweep)
      k_steps
      refine Stop.intro ?_
      (rename News _ _ _ _ => hN12)
      (rename IntsAre _ (row0 _ _ _ _ _ _) => hr0)
      (rename IntsAre _ (row1 _ _ _ _ _ _) => hr1)
      (rename IntsAre _ (row2 _ _ _ _ _ _) => hr2)
      (rename Cut _ _ _ _ _ _ _ _ _ _ _ _ _ _ _ => hcut2)
      rw [hcut2.r0] at hr0
      rw [hcut2.r1] at hr1
      rw [hcut2.r2] at hr2
      refine rows_ne hN12 hr0 hr1 hr2 hI0 hI1 hI2 (by units_room) (by kcf_all) ?_
      k_steps
      (rename Fr _ _ _ _ => hFE)
      (rename News _ _ _ _ => hNE)
      refine hEnd _ _ _ _ _ _ _ _ hFE hNE (by kcf_m) (by kcf_m) (by kcf_m) (by kcf_m) (by kcf_m) (by kcf_m) (by assumption) ?_
      intro z q1 q2 q3
      simp [q1, q2, q3]
  · intro mz h tk F' N'
    k_steps
end Mine
end
theorem PySem.Challenge.cw_ok0088_01_holds : PySem.Challenge.rw_ok0088_01.Holds :=
  Mine.lawC
